import PyProof.Rows.All
import Wide.All
import OpenK.AllK
import Wide.FinOn
import Open.SpecLaws
import KE.OsGo
import KE.KDictKeyed
import HandS.ForSpec
import HandS.Comp
import HandS.Dict
import HandS.TupAny
import HandS.Zip
import HandS.SortInts
import HandS.ExcInit
import HandS.ExcField
import HandS.ExcSuper
import PySem.Challenge.RW_lasttricksdesk_s01_answers
import PyVbbraf
import PyFlatLaws
set_option Elab.async false
set_option linter.all false
set_option maxRecDepth 100000
set_option maxHeartbeats 2000000
/-! # LtA: rules that the layer lacks: a memo keyed by nested tuples, list.extend of a tuple, len(set(..)) of any list, an own error over Exception -/
namespace Lt
open PySem PySem.Spec PyProof.Rows L2

/-! ### numbers, hands, keys as they lie in the heap -/
def nv (l : List Nat) : List V := l.map fun (n : Nat) => V.int (n : Int)
theorem nv_len (l : List Nat) : (nv l).length = l.length := List.length_map _
theorem nv_get {l : List Nat} {i n : Nat} (h : l[i]? = some n) : (nv l)[i]? = some (V.int (n : Int)) := by
  unfold nv; rw [List.getElem?_map, h]; rfl
theorem of_nv {l : List Nat} {i : Nat} {x : V} (h : (nv l)[i]? = some x) : ∃ n, l[i]? = some n ∧ x = V.int (n : Int) := by
  unfold nv at h
  rw [List.getElem?_map] at h
  cases e : l[i]? with
  | none => rw [e] at h; cases h
  | some n => rw [e] at h; exact ⟨n, rfl, (Option.some.inj h).symm⟩
/-- the tuples at these addresses are these rows -/
def Tups (H : Hp) : List Addr → List (List Nat) → Prop
  | [], [] => True
  | a :: as, r :: rs => H a = some (.tup (nv r)) ∧ Tups H as rs
  | _, _ => False
def HandsAt (H : Hp) (a : Addr) (hs : List (List Nat)) : Prop := ∃ as : List Addr, H a = some (.tup (as.map V.ref)) ∧ Tups H as hs
def keyOf (hs : List (List Nat)) (t l : Nat) : NestedKey := .tup [.tup (hs.map fun r => .tup (r.map fun (n : Nat) => .num (n : Int))), .num (t : Int), .num (l : Int)]
def KeyAt (H : Hp) (a : Addr) (hs : List (List Nat)) (t l : Nat) : Prop := ∃ b, H a = some (.tup [.ref b, .int (t : Int), .int (l : Int)]) ∧ HandsAt H b hs
theorem Tups.len {H : Hp} : ∀ {as : List Addr} {hs : List (List Nat)}, Tups H as hs → as.length = hs.length
  | [], [], _ => rfl
  | _ :: _, _ :: _, h => by rw [List.length_cons, List.length_cons, Tups.len h.2]
  | [], _ :: _, h => h.elim
  | _ :: _, [], h => h.elim
theorem Tups.get {H : Hp} : ∀ {as : List Addr} {hs : List (List Nat)} {i : Nat} {r : List Nat}, Tups H as hs → hs[i]? = some r → ∃ a, as[i]? = some a ∧ H a = some (.tup (nv r))
  | a :: _, _ :: _, 0, r, h, e => by cases e; exact ⟨a, rfl, h.1⟩
  | _ :: as, _ :: hs, i + 1, r, h, e => Tups.get (i := i) h.2 e
  | [], _ :: _, _, _, h, _ => h.elim
  | _ :: _, [], _, _, h, _ => h.elim
  | [], [], _, _, _, e => by simp at e
theorem Tups.at {H : Hp} : ∀ {as : List Addr} {hs : List (List Nat)} {i : Nat} {a : Addr}, Tups H as hs → as[i]? = some a → ∃ r, hs[i]? = some r ∧ H a = some (.tup (nv r))
  | a :: _, r :: _, 0, b, h, e => by cases e; exact ⟨r, rfl, h.1⟩
  | _ :: as, _ :: hs, i + 1, b, h, e => Tups.at (i := i) h.2 e
  | [], _ :: _, _, _, h, _ => h.elim
  | _ :: _, [], _, _, h, _ => h.elim
  | [], [], _, _, _, e => by simp at e
theorem Tups.set {H : Hp} : ∀ {as : List Addr} {hs : List (List Nat)} {i : Nat} {a : Addr} {r : List Nat}, Tups H as hs → H a = some (.tup (nv r)) → Tups H (as.set i a) (hs.set i r)
  | [], [], _, _, _, _, _ => trivial
  | _ :: _, _ :: _, 0, _, _, h, e => ⟨e, h.2⟩
  | _ :: as, _ :: hs, i + 1, _, _, h, e => ⟨h.1, Tups.set (i := i) h.2 e⟩
  | [], _ :: _, _, _, _, h, _ => h.elim
  | _ :: _, [], _, _, _, h, _ => h.elim
theorem Tups.imp {H H' : Hp} (k : ∀ a xs, H a = some (.tup xs) → H' a = some (.tup xs)) : ∀ {as : List Addr} {hs : List (List Nat)}, Tups H as hs → Tups H' as hs
  | [], [], _ => trivial
  | _ :: _, _ :: _, h => ⟨k _ _ h.1, Tups.imp k h.2⟩
  | [], _ :: _, h => h.elim
  | _ :: _, [], h => h.elim
theorem HandsAt.imp {H H' : Hp} {a : Addr} {hs : List (List Nat)} (k : ∀ a xs, H a = some (.tup xs) → H' a = some (.tup xs)) (h : HandsAt H a hs) : HandsAt H' a hs :=
  let ⟨as, h1, h2⟩ := h
  ⟨as, k _ _ h1, h2.imp k⟩
theorem KeyAt.imp {H H' : Hp} {a : Addr} {hs : List (List Nat)} {t l : Nat} (k : ∀ a xs, H a = some (.tup xs) → H' a = some (.tup xs)) (h : KeyAt H a hs t l) : KeyAt H' a hs t l :=
  let ⟨b, h1, h2⟩ := h
  ⟨b, k _ _ h1, h2.imp k⟩

/-! ### such a key, to the library -/
section
variable {P : Program} {w : World} {H : Hp} {h : Heap}
theorem ints_key : ∀ {r : List Nat} {us : List Value}, Vals (nv r) us → NestedAll h (r.map fun (n : Nat) => NestedKey.num (n : Int)) us
  | [], _, .nil => .nil
  | n :: r, _, .cons e t => by
    obtain ⟨k, rfl⟩ := e
    exact .cons (.int _ _) (ints_key t)
theorem tup_key (ok : HOk P w H h) {a : Addr} {r : List Nat} (e : H a = some (.tup (nv r))) : NestedIs h (.tup (r.map fun (n : Nat) => .num (n : Int))) (.ref a) := by
  obtain ⟨_, its, rv, o, ho, hc, n, hd⟩ := (show ObjOk P w H h a (.tup (nv r)) from ok a _ e)
  exact .tup ho hc hd (by simpa using ints_key rv)
theorem tups_key (ok : HOk P w H h) : ∀ {as : List Addr} {hs : List (List Nat)} {us : List Value}, Tups H as hs → Vals (as.map V.ref) us → NestedAll h (hs.map fun r => NestedKey.tup (r.map fun (n : Nat) => .num (n : Int))) us
  | [], [], _, _, .nil => .nil
  | a :: as, r :: hs, _, q, .cons e t => by
    cases e
    exact .cons (tup_key ok q.1) (tups_key ok q.2 t)
  | [], _ :: _, _, q, _ => q.elim
  | _ :: _, [], _, q, _ => q.elim
theorem hands_key (ok : HOk P w H h) {a : Addr} {hs : List (List Nat)} (q : HandsAt H a hs) : NestedIs h (.tup (hs.map fun r => .tup (r.map fun (n : Nat) => .num (n : Int)))) (.ref a) := by
  obtain ⟨as, e, q⟩ := q
  obtain ⟨_, its, rv, o, ho, hc, n, hd⟩ := (show ObjOk P w H h a (.tup (as.map V.ref)) from ok a _ e)
  exact .tup ho hc hd (by simpa using tups_key ok q rv)
theorem nums_depth : ∀ r : List Nat, NestedKey.depthAll (r.map fun (n : Nat) => .num (n : Int)) = 0
  | [] => by simp [NestedKey.depthAll]
  | n :: r => by simp [NestedKey.depthAll, NestedKey.depth, nums_depth r]
theorem rows_depth : ∀ hs : List (List Nat), NestedKey.depthAll (hs.map fun r => .tup (r.map fun (n : Nat) => .num (n : Int))) ≤ 1
  | [] => by simp [NestedKey.depthAll]
  | r :: hs => by
    have q := rows_depth hs
    simp only [List.map_cons, NestedKey.depthAll, NestedKey.depth, nums_depth]
    omega
theorem key_is (ok : HOk P w H h) {a : Addr} {hs : List (List Nat)} {t l : Nat} (q : KeyAt H a hs t l) : (nestedKind P w).is h (keyOf hs t l) a := by
  obtain ⟨b, e, q⟩ := q
  obtain ⟨_, its, rv, o, ho, hc, n, hd⟩ := (show ObjOk P w H h a (.tup [.ref b, .int (t : Int), .int (l : Int)]) from ok a _ e)
  refine ⟨.tup ho hc hd ?_, ?_⟩
  · cases rv with
    | cons e1 rv =>
      cases rv with
      | cons e2 rv =>
        cases rv with
        | cons e3 rv =>
          cases rv
          cases e1
          obtain ⟨t2, rfl⟩ := e2
          obtain ⟨t3, rfl⟩ := e3
          exact .cons (hands_key ok q) (.cons (.int _ _) (.cons (.int _ _) .nil))
  · have z := rows_depth hs
    simp only [keyOf, NestedKey.depth, NestedKey.depthAll]
    omega
end

/-! ### the memo -/
abbrev Ent := NestedKey × Addr × Int
def entRel (p : Ent) (q : NestedKey × Addr × Value) : Prop := p.1 = q.1 ∧ p.2.1 = q.2.1 ∧ ∃ t, q.2.2 = .int p.2.2 t
/-- at d: a dict with these entries; what stands at the keys' addresses is told elsewhere -/
def knRaw (w : World) (d : Addr) (kn : List Ent) (h : Heap) : Prop :=
  (d == sysModules) = false ∧ ∃ xs : List (NestedKey × Addr × Value), Paired entRel kn xs ∧ (xs.map (·.1)).Nodup ∧
    ∃ o es ep, h.get? d = some o ∧ o.ExactDict ∧ o.data = .dict es ep ∧ es.toList = xs.map fun x => (⟨x.1.hash w, .ref x.2.1, x.2.2⟩ : DictEntry)
def knO (w : World) (d : Addr) (kn : List Ent) : HO := .ext (knRaw w d kn)
/-- what the key at a is -/
def KIs (H : Hp) (a : Addr) (k : NestedKey) : Prop := ∃ hs t l, k = keyOf hs t l ∧ KeyAt H a hs t l
def stK (kn : List Ent) (k : NestedKey) (a : Addr) (n : Int) : List Ent := if k ∈ kn.map (·.1) then kn.map (fun e => if e.1 = k then (e.1, e.2.1, n) else e) else kn ++ [(k, a, n)]
theorem paired_map_fst {R : Ent → NestedKey × Addr × Value → Prop} (hR : ∀ p q, R p q → p.1 = q.1) : ∀ {kn : List Ent} {xs : List (NestedKey × Addr × Value)}, Paired R kn xs → kn.map (·.1) = xs.map (·.1)
  | _, _, .nil => rfl
  | _, _, .cons r t => by rw [List.map_cons, List.map_cons, hR _ _ r, paired_map_fst hR t]
theorem ent_fst {kn : List Ent} {xs : List (NestedKey × Addr × Value)} (h : Paired entRel kn xs) : kn.map (·.1) = xs.map (·.1) := paired_map_fst (fun _ _ q => q.1) h
theorem paired_mem {α β : Type} {R : α → β → Prop} : ∀ {l : List α} {m : List β}, Paired R l m → ∀ y ∈ m, ∃ x ∈ l, R x y
  | _, _, .nil, y, h => by simp at h
  | _, _, .cons (a := x) r t, y, h => by
    rcases List.mem_cons.mp h with e | h
    · exact ⟨_, List.mem_cons_self, by rw [e]; exact r⟩
    · obtain ⟨z, hz, q⟩ := paired_mem t y h
      exact ⟨z, List.mem_cons_of_mem _ hz, q⟩
theorem paired_mem' {α β : Type} {R : α → β → Prop} : ∀ {l : List α} {m : List β}, Paired R l m → ∀ x ∈ l, ∃ y ∈ m, R x y
  | _, _, .nil, y, h => by simp at h
  | _, _, .cons r t, y, h => by
    rcases List.mem_cons.mp h with e | h
    · exact ⟨_, List.mem_cons_self, by rw [e]; exact r⟩
    · obtain ⟨z, hz, q⟩ := paired_mem' t y h
      exact ⟨z, List.mem_cons_of_mem _ hz, q⟩
theorem atKey_isSome (xs : List (NestedKey × Addr × Value)) (k : NestedKey) : (atKey xs k).isSome = decide (k ∈ xs.map (·.1)) := by
  unfold atKey
  rw [Option.isSome_map, Bool.eq_iff_iff, List.find?_isSome]
  simp
theorem paired_append {α β : Type} {R : α → β → Prop} : ∀ {l l' : List α} {m m' : List β}, Paired R l m → Paired R l' m' → Paired R (l ++ l') (m ++ m')
  | _, _, _, _, .nil, h => h
  | _, _, _, _, .cons r t, h => .cons r (paired_append t h)
theorem paired_map {α β α' β' : Type} {R : α → β → Prop} {S : α' → β' → Prop} {f : α → α'} {g : β → β'} (hf : ∀ a b, R a b → S (f a) (g b)) : ∀ {l : List α} {m : List β}, Paired R l m → Paired S (l.map f) (m.map g)
  | _, _, .nil => .nil
  | _, _, .cons r t => .cons (hf _ _ r) (paired_map hf t)
section
variable {X : Cx} {pins : List (Addr × Obj)} {σ : L2.St} {H : Hp} {s : Shared} {d : Addr} {kn : List Ent}
/-- the memo as the library's dict -/
theorem kn_dict (I : Inv X pins σ H s) (e : H d = some (knO X.w d kn)) (hk : ∀ p ∈ kn, KIs H p.2.1 p.1) :
    (d == sysModules) = false ∧ ∃ xs, Paired entRel kn xs ∧ s.heap.DictOfH (nestedKind X.prog X.w) d xs := by
  obtain ⟨⟨hs, xs, r, nd, o, es, ep, h1, h2, h3, h4⟩, _⟩ := (show ObjOk X.prog X.w H s.heap d (.ext (knRaw X.w d kn)) from I.hok d _ e)
  refine ⟨hs, xs, r, o, es, ep, h1, h2, h3, h4, fun x hx => ?_, nd⟩
  obtain ⟨p, hp, q1, q2, _⟩ := paired_mem r x hx
  obtain ⟨hands, t, l, e1, e2⟩ := hk p hp
  rw [← q1, ← q2, e1]
  exact key_is I.hok e2
theorem kn_obj {P : Program} {w : World} {H : Hp} {h : Heap} {d : Addr} {kn : List Ent} (hs : (d == sysModules) = false) {xs : List (NestedKey × Addr × Value)} (r : Paired entRel kn xs) (x : h.DictOfH (nestedKind P w) d xs) : ObjOk P w H h d (knO w d kn) := by
  obtain ⟨o, es, ep, h1, h2, h3, h4, _, nd⟩ := x
  refine ⟨⟨hs, xs, r, nd, o, es, ep, h1, h2, h3, h4⟩, ⟨o, h1⟩, fun a b q k => ?_⟩
  obtain ⟨hs, xs, r, nd, o, es, ep, h1, h2, h3, h4⟩ := q
  exact ⟨hs, xs, r, nd, o, es, ep, k _ h1, h2, h3, h4⟩
def tKnNew (w : World) : TE := fun _ H Q => ∀ p, H p = none → Q (.ref p) (upd H p (knO w p []))
theorem pe_knNew {pos : Pos} : PE X (.Dict [] [] pos) (tKnNew X.w) := ⟨fun pins s σ H Q I h => by
  refine wpAny_Dict_empty ⟨.ref s.heap.objs.size, _, I.laid (a := s.heap.objs.size) (o := knO X.w s.heap.objs.size []) (t' := s.toks) (fun _ _ q => Heap.get?_push_of_some _ q) (Nat.le_refl _) ?_, rfl, h _ (I.hok.fresh (Nat.le_refl _))⟩
  exact kn_obj (beq_eq_false_iff_ne.mpr (Ne.symm (Nat.ne_of_lt I.big))) .nil (Heap.DictOfH.new s.heap)⟩
/-- key not in memo -/
def rKnNot (w : World) : R2 := fun x y H Q => ∃ a d kn k, x = .ref a ∧ y = .ref d ∧ H d = some (knO w d kn) ∧ (∀ p ∈ kn, KIs H p.2.1 p.1) ∧ KIs H a k ∧ Q (.bl (!decide (k ∈ kn.map (·.1)))) H
theorem op_knNot (hu : X.A.units + 9 < cLine) : OpR X (compareOp .NotIn) (rKnNot X.w) := by
  intro pins s σ H x y v u Q I rx ry h
  obtain ⟨a, d, kn, k, rfl, rfl, e, hk, ⟨hs, t, l, ek, ea⟩, q⟩ := h
  cases rx
  cases ry
  obtain ⟨hd, xs, r, m⟩ := kn_dict I e hk
  refine notIn_keyed (knd := nestedKind X.prog X.w) (k := k) (kvs := pairsH xs) (by show X.A.units + 1 + 8 < cLine; omega) (by rw [ek]; exact key_is I.hok ea) hd ⟨xs, m, rfl⟩ ?_
  rw [valueAt_pairsH, Option.isSome_map, atKey_isSome, ← ent_fst r]
  exact ⟨.bl _, H, I.tok _, rfl, q⟩
/-- memo[key], there -/
def rKnGet (w : World) : R2 := fun x y H Q => ∃ a d kn k n, x = .ref d ∧ y = .ref a ∧ H d = some (knO w d kn) ∧ (∀ p ∈ kn, KIs H p.2.1 p.1) ∧ KIs H a k ∧ k ∈ kn.map (·.1) ∧ (∀ b m, (k, b, m) ∈ kn → m = n) ∧ Q (.int n) H
theorem ix_kn (hu : X.A.units + 9 < cLine) : IxR X (rKnGet X.w) := by
  intro value slice pins s σ H x y v u Q I rx ry h hs
  obtain ⟨a, d, kn, k, n, rfl, rfl, e, hk, ⟨hands, t, l, ek, ea⟩, hm, hn, q⟩ := h
  cases rx
  cases ry
  obtain ⟨hd, xs, r, m⟩ := kn_dict I e hk
  have hsome : (atKey xs k).isSome = true := by rw [atKey_isSome, ← ent_fst r]; exact decide_eq_true hm
  obtain ⟨p, hp⟩ := Option.isSome_iff_exists.mp hsome
  have hp' : (k, p.1, p.2) ∈ xs := by
    unfold atKey at hp
    obtain ⟨z, hz, e2⟩ := Option.map_eq_some_iff.mp hp
    have e3 : z.1 = k := by simpa using List.find?_some hz
    have e4 := List.mem_of_find?_eq_some hz
    rw [← e3, ← e2]
    exact e4
  obtain ⟨⟨k2, b, n2⟩, hz, q1, q2, tk, q3⟩ := paired_mem r _ hp'
  have e5 : n2 = n := hn b n2 (by have q1' : k2 = k := q1; rw [← q1']; exact hz)
  have q3' : p.2 = Value.int n2 tk := q3
  refine subscriptTail_builtinR (x := p.2) m.typeIs PySem.F.slot_dict_getitem.lookup (wpAny_getItem_heap (knd := nestedKind X.prog X.w) (k := k) (by show X.A.units + 1 + 8 < cLine; omega) (by rw [ek]; exact key_is I.hok ea) m hp ⟨rfl, ?_⟩) hs
  exact ⟨.int n, H, I.tok _, by rw [q3', e5]; exact ⟨_, rfl⟩, q⟩
/-- memo[key] = n -/
def rKnSet (w : World) : TSet := fun o i v H Q => ∃ a d kn k n, o = .ref d ∧ i = .ref a ∧ v = .int n ∧ H d = some (knO w d kn) ∧ (∀ p ∈ kn, KIs H p.2.1 p.1) ∧ KIs H a k ∧ kn.length ≤ sizeLine ∧ Q (upd H d (knO w d (stK kn k a n)))
theorem set_kn (hu : X.A.units + 9 < cLine) : PSet X (rKnSet X.w) := by
  intro pins s σ H o i v ov iv u Q I ro ri rv h
  obtain ⟨a, d, kn, k, n, rfl, rfl, rfl, e, hk, ⟨hands, t, l, ek, ea⟩, hz, q⟩ := h
  cases ro
  cases ri
  obtain ⟨tk, rfl⟩ := rv
  obtain ⟨hd, xs, r, m⟩ := kn_dict I e hk
  have hlen : kn.length = xs.length := Paired.length r
  refine wpAny_setItem_heap (hsz := by rw [← hlen]; exact hz) (knd := nestedKind X.prog X.w) (k := k) (by show X.A.units + 1 + 8 < cLine; omega) (by rw [ek]; exact key_is I.hok ea) m fun h' m' sb => ?_
  have r' : Paired entRel (stK kn k a n) (storedH xs k a (.int n tk)) := by
    unfold stK storedH
    rw [atKey_isSome, ← ent_fst r]
    by_cases c : k ∈ kn.map (·.1)
    · rw [if_pos c, if_pos (decide_eq_true c)]
      refine paired_map (fun p y z => ?_) r
      obtain ⟨z1, z2, t0, z3⟩ := z
      by_cases c2 : p.1 = k
      · have c3 : y.1 = k := z1.symm.trans c2
        rw [if_pos c2, putAt, if_pos c3]
        exact ⟨z1, z2, tk, rfl⟩
      · have c3 : ¬ y.1 = k := fun z => c2 (z1.trans z)
        rw [if_neg c2, putAt, if_neg c3]
        exact ⟨z1, z2, t0, z3⟩
    · rw [if_neg c, if_neg (by rw [decide_eq_false c]; exact Bool.false_ne_true)]
      exact paired_append r (.cons ⟨rfl, rfl, tk, rfl⟩ .nil)
  obtain ⟨o2, es, ep, h1, hr⟩ := id m'
  refine ⟨_, I.write (x := d) (e := d) (o := knO X.w d (stK kn k a n)) (t' := s.toks + (nestedKind X.prog X.w).draws k) (by rw [e]; exact True.intro) (.inl rfl) (fun b ob hb z => (sb.2 b hb).trans z) ⟨o2, h1⟩ (kn_obj hd r' m'), q⟩

/-! ### list.extend of a tuple -/
section
theorem ext_tup (l : Addr) (items : Array Value) (n : Nat) (b : Addr) (items2 : Array Value) (n2 : Nat) (dd : Option Addr) (sl : Array (Option Value)) (hs0 : ¬(!items.isEmpty && Builtin.List.listTooLong (items.size + items2.size)) = true) (hs1 : items.size ≤ sizeLine) (hs2 : items.size + items2.size ≤ sizeLine + 1) :
    Meets (Builtin.«list.extend» ⟨[.ref l, .ref b], []⟩) (fun _ R s => s.heap.get? l = some ({ cls := .type "list", data := .seq items n } : Obj) ∧ s.heap.get? b = some ({ cls := .type "tuple", dict := dd, data := .seq items2 n2, slots := sl } : Obj) ∧
      R (.ok (.ret Value.none)) { s with heap := s.heap.update l (Obj.mapSeq fun x => x ++ items2), toks := s.toks }) :=
  .of_wp fun prog w A R s h => by
    obtain ⟨hp, g, d, tk, os⟩ := s
    obtain ⟨hl, hb, h⟩ := h
    have f1 := AutoSeq1.idx_int
    have f2 := AutoSeq1.sub_tuple_tuple
    have f3 := AutoSeq1.sub_list_list
    have f4 := AutoSeq1.sub_tuple_list
    have f5 := AutoSeq1.sub_list_tuple
    have hz' : (items ++ items2).size ≤ sizeLine + 1 := by rw [Array.size_append]; exact hs2
    wp_walk using (wpAny_updateSeq hl rfl (hz := hs1) (_hz' := hz')), AutoSeq1.wpAny_loadPart' hl, AutoSeq1.wpAny_loadPart' hb
    exact ⟨_, rfl, h⟩
end
def rExtT (K : PySem.W.Frag) : V → List V → Hp → VK → Prop := fun x vs H Q => ∃ l b xs zs, x = .ref l ∧ vs = [.ref b] ∧ H l = some (.lst xs) ∧ SqT K H b zs ∧ xs.length + zs.length ≤ sizeLine ∧ Q .non (upd H l (.lst (xs ++ zs)))
theorem mt_extT : MtR X "list.extend" (rExtT X.K) := by
  intro pins s σ H x vs v us Q I rx rv h
  obtain ⟨l, b, xs, zs, rfl, rfl, hH, hB, hz, q⟩ := h
  cases rx
  obtain ⟨u, rfl, ru⟩ := rv.one
  cases ru
  obtain ⟨_, its, n, r, hl, e⟩ := I.lstM hH
  obtain ⟨its2, r2, ⟨ob, ho, hc, n2, hd⟩, _⟩ := I.tuple hB
  obtain ⟨cls, dd, data, sl⟩ := ob
  dsimp only at hc hd
  subst hc hd
  have hl2 := r2.length
  have hsz : its.toArray.size + its2.toArray.size ≤ sizeLine := by rw [List.size_toArray, List.size_toArray]; omega
  have hlong : ¬ (!its.toArray.isEmpty && Builtin.List.listTooLong (its.toArray.size + its2.toArray.size)) = true := by
    rw [notLongL hsz, Bool.and_false]
    exact Bool.false_ne_true
  refine call_meets F.slot_list_extend ⟨_, e, rfl⟩ F.entry_list_extend (F.args_list_extend_2 _ _)
    (ext_tup l its.toArray n b its2.toArray n2 dd sl hlong (by rw [List.size_toArray]; omega) (by omega)) ⟨e, ho, ?_⟩
  refine ⟨.non, _, I.lset (its' := its ++ its2) hH e (by simp) (r.append r2) ?_, rfl, q⟩
  rw [List.length_append]
  omega

/-! ### len(set(xs)) -/
def dedN (ns : List Int) : Nat := (PyProof.Rows.firstMet (fun i => ns.getD i 0) ns.length).length
theorem ded_step (val : Nat → Int) (i : Nat) : (PyProof.Rows.firstMet val (i + 1)).length = if (PyProof.Rows.firstMet val i).any (· == val i) then (PyProof.Rows.firstMet val i).length else (PyProof.Rows.firstMet val i).length + 1 := by
  rw [PyProof.Rows.firstMet_succ]
  unfold PyProof.Rows.step_dedup
  split <;> simp
theorem ded_full (ns : List Int) : ∀ i, i ≤ ns.length → (PyProof.Rows.firstMet (fun j => ns.getD j 0) i).length = i → (ns.take i).Nodup
  | 0, _, _ => by simp
  | i + 1, hi, h => by
    have hlt : i < ns.length := hi
    have le := PyProof.Rows.firstMet_length_le (fun j => ns.getD j 0) i
    rw [ded_step] at h
    by_cases c : (PyProof.Rows.firstMet (fun j => ns.getD j 0) i).any (· == ns.getD i 0) = true
    · rw [if_pos c] at h; omega
    · rw [if_neg c] at h
      have ih := ded_full ns i (Nat.le_of_lt hlt) (by omega)
      rw [List.take_succ_eq_append_getElem hlt]
      refine List.nodup_append.mpr ⟨ih, by simp, fun a ha b hb e => c ?_⟩
      rw [PyProof.Rows.firstMet_any, List.any_eq_true]
      have eb : b = ns[i] := by simpa using hb
      obtain ⟨j, hj⟩ := List.mem_iff_getElem?.mp ha
      rw [List.getElem?_take] at hj
      by_cases hji : j < i
      · rw [if_pos hji] at hj
        refine ⟨ns.getD j 0, List.mem_map.mpr ⟨j, List.mem_range.mpr hji, rfl⟩, ?_⟩
        rw [List.getD_eq_getElem?_getD, hj, List.getD_eq_getElem?_getD, List.getElem?_eq_getElem hlt, e, eb]
        simp
      · rw [if_neg hji] at hj; cases hj
theorem ded_iff (ns : List Int) : dedN ns = ns.length ↔ ns.Nodup := by
  constructor
  · intro h
    have z := ded_full ns ns.length (Nat.le_refl _) h
    rwa [List.take_length] at z
  · intro h
    unfold dedN
    rw [RZ.firstMet_nodup h ns.length (Nat.le_refl _), List.take_length]
def tLenSet (K : PySem.W.Frag) (ta : TE) : TE := fun σ H Q => ta σ H fun x H1 => ∃ (l : Addr) (ns : List Int), x = .ref l ∧ SqL K H1 l (ns.map V.int) ∧ ns.length ≤ 4000 ∧ Q (.int (dedN ns : Nat)) H1
theorem pe_lenSet {a : Expr} {ta : TE} {p p2 q pos : Pos} (hg : Gl X "len") (hm : X.mg "len" = none) (hg2 : Gl X "set") (hm2 : X.mg "set" = none) (ha : PE X a ta) (hc : X.calm = true := by rfl)
    (na : starEach [a] X.env = (false, eval a X.env) :: starEach [] X.env := by rfl) : PE X (.Call (.Name "len" p) [.Call (.Name "set" p2) [a] [] q] [] pos) (tLenSet X.K ta) := by
  refine ⟨fun pins s σ H Q I h => ?_⟩
  refine Call_ (ld_blt I hg hm boot_len ?_)
  refine PyProof.Rows.callWith_builtin1 (PyProof.Rows.args_cons ?_ rfl) rfl rfl
  refine Call_ (ld_blt I hg2 hm2 boot_set ?_)
  refine PyProof.Rows.callWith_type1 (PyProof.Rows.args_cons (thn (ha.run pins s σ H _ I h) fun v s1 ⟨x, H1, I1, r1, q1⟩ => PyProof.Rows.args_nil ?_) na) na rfl
  obtain ⟨l, ns, rfl, hq, hl, q1⟩ := q1
  cases r1
  obtain ⟨its, r, pl, hz⟩ := I1.list hq
  have hlen : its.toArray.size = ns.length := by rw [List.size_toArray, ← r.length, List.length_map]
  refine call_set_list (I1.ok.hd hc) pl.isList (by simpa using RZ.intsAre_vals r) (by rw [hlen]; unfold scanBound; omega) fun h' tk hS hk => ?_
  refine PyProof.Rows.args_nil ?_
  rw [hlen] at hS
  obtain ⟨o, es, ep, t, ho, hex, hd, _, _, _, hf, hn⟩ := hS
  have le := PyProof.Rows.firstMet_length_le (fun j => ns.getD j 0) ns.length
  have I2 : Inv X pins σ H1 { s1 with heap := h', toks := tk } := I1.kept fun b o e => hk b o (Heap.lt_size e) e
  exact call_len_set ho hex hd hf (by rw [hn]; omega) ⟨.int (dedN ns : Nat), H1, I2.tok _, ⟨_, by rw [hn]; rfl⟩, q1⟩

/-! ### xs[i], to be read and stored again -/
theorem get_lst : PGet X (rIxL X.K) := by
  intro pins s σ H o i ov iv Q I ro ri h
  obtain ⟨p, xs, k, z, rfl, rfl, hq, he, q⟩ := h
  cases ro
  obtain ⟨t, rfl⟩ := ri
  obtain ⟨its, r, pl, hz⟩ := I.list hq
  obtain ⟨j, h1, h2, h3, h4, h5⟩ := atI_get he
  obtain ⟨u, eu, ru⟩ := r.get h2
  have hl := r.length
  have hn := line63
  have fin : EP X pins σ Q u s := ⟨z, H, I, ru, q⟩
  by_cases h0 : 0 ≤ k
  · have hj : k.toNat = j := by
      rw [seqIndex_of h0 h5] at h1
      exact Option.some.inj h1
    exact wpAny_getItem_list pl.isList h0 (by omega) (by rw [hj]; simpa using eu) fin
  · have hj : (k + (its.toArray.size : Int)).toNat = j := by
      rw [seqIndex_neg (by omega) h4] at h1
      rw [List.size_toArray, ← hl]
      exact Option.some.inj h1
    exact wpAny_getItem_list_neg pl.isList (by omega) (by rw [List.size_toArray]; omega) (by omega) (by rw [hj]; simpa using eu) fin
end
end Lt
/-! # LtB: an own error over Exception, with an __init__ that calls Exception.__init__(self) and stores one field -/
namespace Lt
open PySem PySem.Spec PyProof.Rows L2
/-- what the written part says of the error's class -/
structure RefC (K : PySem.W.Frag) (C : Addr) : Prop where
  cls : ∃ nm q N bs sn sub ab col dd k0 k1 k2 k3 k5, K.lookup C = some (excClassObj nm q C N bs PySem.ESX.exTail true sn sub ab col dd k0 k1 k2 k3 k5 "Exception.__new__")
  sa : PySem.W.findIn K (.ref C) "__setattr__" = some (some (.builtin "object.__setattr__"))
  exC : PySem.W.subIn K (.ref C) (.type "BaseException") = some true
  tyC : PySem.W.typeIn K (.ref C) = some (.type "type")
  kC : PySem.W.keepIn K (.ref C) = true
theorem typ_E : typeOf (.type "Exception") = pure (.type "type") := by kernel_rfl
section
variable {X : Cx} {pins : List (Addr × Obj)} {σ : L2.St} {H : Hp} {s : Shared} {a C : Addr}
theorem notA {b a : Addr} {H : Hp} {o : HO} (e : H a = some o) (n : H b = none) : b ≠ a := fun z => by rw [z, e] at n; cases n
/-- the first field of an error that is being made -/
theorem ref_set {f : Str} {y : V} {u : Value} {Q : Unit → Shared → Prop} {E : Value → Shared → Prop} {A : Around} (T : RefC X.K C) (I : Inv X pins σ H s) (e : H a = some (exo a C none)) (hno : PySem.W.findIn X.K (.ref C) f = some none) (ry : RelV y u)
    (h : ∀ d s', H d = none → d ≠ a → Inv X pins σ (upd (upd H d (exd d [(f, y)])) a (exo a C (some d))) s' → Q () s') : wpAny (model X.prog X.w) A (setAttr (.ref a) f u) Q E s := by
  obtain ⟨nm, q, N, bs, sn, sub, ab, col, dd, k0, k1, k2, k3, k5, hC⟩ := T.cls
  have hcl : PySem.W.clsIn X.K C = some { name := nm, bases := bs, mro := .ref C :: PySem.ESX.exTail, ns := N, qualname := q, hasDict := true, slotNames := sn, subclasses := sub, abstract := ab, collection := col, hasDel := false } := by
    unfold PySem.W.clsIn; rw [hC] <;> rfl
  obtain ⟨t1, ho⟩ := exo_at I.hok e
  obtain ⟨hp, g, dr, t, os⟩ := s
  refine PySem.W.set_plain I.kIn (ox := { cls := .ref C, dict := none, data := .fields #[.ref t1, .none, .none, .none, .bool false, .none] }) (od := none) ⟨ho, rfl, rfl, trivial⟩ T.sa ?_
  refine PySem.ESX.osa_new I.kIn ho hcl rfl rfl hno fun h' tk' d kp dn dne hx hn => ?_
  have hd0 : H d = none := I.hok.fresh dn
  have nd : ∀ {b : Addr} {o : Obj}, hp.get? b = some o → b ≠ d := fun q => Nat.ne_of_lt (Nat.lt_of_lt_of_le (Heap.lt_size q) dn)
  have U : Un X.fs [] H (upd (upd H d (exd d [(f, y)])) a (exo a C (some d))) hp h' :=
    ⟨fun b o z n _ _ => kp b o (notA e n) z, fun b o z n _ _ => ⟨o.slots, kp b o (notA e n) z⟩,
      fun b o z n _ => by rw [upd_ne (notA e n), upd_ne (nd z)]; exact n,
      fun b o z _ => by
        by_cases hb : b = a
        · exact ⟨_, by rw [hb]; exact hx⟩
        · exact ⟨o, kp b o hb z⟩,
      fun b xs z => by rw [upd_ne (at_ne e z exo_tup), upd_ne (ne_of_none z hd0)]; exact z,
      fun b o v z => by rw [upd_ne (at_ne e z exo_frz), upd_ne (ne_of_none z hd0)]; exact z,
      fun b ps z => ⟨#[], by rw [upd_ne (at_ne e z exo_tbl), upd_ne (ne_of_none z hd0), z]; simp⟩⟩
  refine h d _ hd0 dne (I.un (t' := tk') U fun b o z => ?_)
  by_cases hb : b = a
  · subst hb
    rw [upd_same] at z
    cases z
    exact exo_ok hx
  rw [upd_ne hb] at z
  by_cases hd : b = d
  · subst hd
    rw [upd_same] at z
    cases z
    exact exd_ok hn (relO_put (fs := []) ry fun g => True.intro)
  rw [upd_ne hd] at z
  refine (I.hok b o z).stay (fun c v hc w' => kp c v ?_ w') (fun c hc => ?_) (fun c xs hc => ?_)
  · rcases hc with hc | hc
    · rw [hc]; exact hb
    · exact at_ne e hc exo_own
  · rw [upd_ne (at_ne e hc exo_own), upd_ne (ne_of_none hc hd0)]; exact hc
  · rw [upd_ne (at_ne e hc exo_tup), upd_ne (ne_of_none hc hd0)]; exact hc
/-- Exception.__init__(self): nothing of it is told -/
theorem ref_base {Q : Value → Shared → Prop} {E : Value → Shared → Prop} {A : Around} (T : RefC X.K C) (I : Inv X pins σ H s) (e : H a = some (exo a C none)) (h : ∀ s', Inv X pins σ H s' → Q .none s') :
    wpAny (model X.prog X.w) A (call (.builtin "Exception.__init__") [.ref a]) Q E s := by
  obtain ⟨nm, q, N, bs, sn, sub, ab, col, dd, k0, k1, k2, k3, k5, hC⟩ := T.cls
  obtain ⟨t1, ho⟩ := exo_at I.hok e
  obtain ⟨hp, g, dr, t, os⟩ := s
  refine wpAny_call (PySem.HandSPX.init_base PySem.F.excBase_Exception (bm := PySem.ESX.exTail) (fun _ => rfl) (I.kIn _ _ hC) ho (Nat.zero_le _) fun h' t2 k hx => ?_)
  have J := I.write (t' := t) (x := a) (e := a) (o := exo a C none) (by rw [e]; exact True.intro) (.inl rfl) k ⟨_, hx⟩ (exo_ok hx)
  have eu : upd H a (exo a C none) = H := funext fun b => by
    by_cases hb : b = a
    · rw [hb, upd_same, e]
    · rw [upd_ne hb]
  rw [eu] at J
  exact h _ J
def tEInit (K : PySem.W.Frag) (te : TE) : TE := fun σ H Q => te σ H fun x H1 => ∃ a C : Addr, x = .ref a ∧ RefC K C ∧ H1 a = some (exo a C none) ∧ Q .non H1
theorem pe_einit {pl : Sem Bool} {e : Expr} {te : TE} {p1 p2 pos : Pos} (hg : Gl X "Exception") (hm : X.mg "Exception" = none) (vV : PySem.W.findCls X.K (.type "Exception") (.type "type") "__init__" = some (.val (.builtin "Exception.__init__"))) (ha : PE X e te)
    (hc : eval (.Call (.Attribute (.Name "Exception" p1) "__init__" p2) [e] [] pos) X.env = (do
      let ov ← eval (.Name "Exception" p1) X.env
      standAt p2.atName
      let (f, first) ← holding [ov] (getMethod ov "__init__" pl)
      callWith pos f first (backTo pos (starEach [e] X.env)) (backToKw pos (keywordEach [] X.env))) := by rfl)
    (he : starEach (e :: []) X.env = (false, eval e X.env) :: starEach [] X.env := by rfl) (hpl : (backTo pos (starEach [] X.env)).any (·.1) = false := by rfl) :
    PE X (.Call (.Attribute (.Name "Exception" p1) "__init__" p2) [e] [] pos) (tEInit X.K te) := by
  refine ⟨fun pins s σ H Q I h => ?_⟩
  refine PySem.W.methodCall_KW (ld_blt I hg hm PyProof.Rows.Boot.«Exception» ?_ (by decide) (by decide)) hc
  obtain ⟨m, fr⟩ := I.fr
  refine PySem.W.method_type fr I.ok.mod.kin typ_E (by decide +kernel) vV (by decide +kernel) ?_
  show wpAny _ _ (callWith pos (Value.builtin "Exception.__init__") [] (backTo pos (starEach [e] X.env)) []) _ _ _
  have pa : PA X [e] (tCons te tNil) := pa_cons ha pa_nil he
  refine PyProof.Rows.callWith_method1 (thn (pa.run pos pins _ σ H (fun vs H1 => ∃ a C : Addr, vs = [.ref a] ∧ RefC X.K C ∧ H1 a = some (exo a C none) ∧ Q .non H1) (I.tok _) ?_) fun us s1 ⟨vs, H1, I1, r1, a, C, ev, T, ea, q⟩ => ?_) he hpl
  · have h' : te σ H (fun x H1 => ∃ a C : Addr, [x] = [V.ref a] ∧ RefC X.K C ∧ H1 a = some (exo a C none) ∧ Q .non H1) := by
      have e1 : (fun (x : V) (H1 : Hp) => ∃ a C : Addr, [x] = [V.ref a] ∧ RefC X.K C ∧ H1 a = some (exo a C none) ∧ Q .non H1) = (fun x H1 => ∃ a C : Addr, x = .ref a ∧ RefC X.K C ∧ H1 a = some (exo a C none) ∧ Q .non H1) := by
        funext x H1
        simp
      rw [e1]
      exact h
    exact h'
  · subst ev
    cases r1 with
    | cons ra rw' =>
      cases rw'
      cases ra
      exact ref_base T I1 ea fun s' J => ⟨.non, H1, J, rfl, q⟩
/-- self.f = e, on an error that is being made -/
def tRefSet (K : PySem.W.Frag) (f : Str) (to te : TE) : TS := fun D σ H => te σ H fun y H1 => to σ H1 fun x H2 => ∃ a C : Addr, x = .ref a ∧ RefC K C ∧ PySem.W.findIn K (.ref C) f = some none ∧ H2 a = some (exo a C none) ∧
  ∀ d, H2 d = none → d ≠ a → D.nx σ (upd (upd H2 d (exd d [(f, y)])) a (exo a C (some d)))
theorem ps_refSet {o e : Expr} {to te : TE} {f : Str} {p' pos : Pos} (ho : PE X o to) (he : PE X e te) (hs : swapsWith e (some (.Attribute o f p')) pos.line X.env = pure false := by rfl) : PS X (.Assign [.Attribute o f p'] e pos) (tRefSet X.K f to te) := by
  refine ⟨fun pins s σ H D I h => ?_⟩
  refine plainObj_wpAny_Assign_Attribute (thn (he.run pins s σ H _ I h) fun v s1 ⟨y, H1, I1, r1, q1⟩ => thn (ho.run pins s1 σ H1 _ I1 q1) fun u s2 ⟨x, H2, I2, r2, a, C, ex, T, hno, ea, q⟩ => ?_) hs
  subst ex
  cases r2
  exact ref_set T I2 ea hno r1 fun d s' n ne J => ⟨σ, _, J, q d n ne⟩
/-- the promise of the error's __init__ -/
def spRefI (C : Addr) : Sp := fun vs H Q _ => ∃ (a : Addr) (y : V), vs = [.ref a, y] ∧ H a = some (exo a C none) ∧ ∀ d, H d = none → d ≠ a → Q .non (upd (upd H d (exd d [(("code" : Str), y)])) a (exo a C (some d)))
/-- Refused(e) -/
def tMkRef (C : Addr) (te : TE) : L2.St → Hp → XK → Prop := fun σ H Q => te σ H fun y H1 => ∀ d H', H1 d = none → Same H1 H' → H' d = some (.xd [(("code" : Str), y)]) → Q (.ref C) (some d) H'
theorem pmk_ref {CX : CXT} {x : Str} {fI : Addr} {k : Nat} {fd : FuncData} {e : Expr} {te : TE} {p pos : Pos} (T : RefC X.K C) (iC : PySem.W.findIn X.K (.ref C) "__init__" = some (some (.ref fI))) (tI : PySem.W.typeIn X.K (.ref fI) = some (.type "function"))
    (F1 : FnOk X.prog X.w X.K X.mg X.base CX k fI fd ["self", "code"] (spRefI C)) (hr : Room (k + 1) X.A) (hb : Binds X.K fd ["self", "code"] []) (hx : Passes CX X (fun _ _ _ => False)) (hg : Gl X x) (hm : X.mg x = some (.ref C)) (ha : PE X e te)
    (hdb : (x == ("__debug__" : Str)) = false := by decide) (he : starEach (e :: []) X.env = (false, eval e X.env) :: starEach [] X.env := by rfl) (hpl : (backTo pos (starEach [] X.env)).any (·.1) = false := by rfl) :
    PMk X (.Call (.Name x p) [e] [] pos) (tMkRef C te) := by
  intro pins s σ H Q I h
  obtain ⟨nm, q, N, bs, sn, sub, ab, col, dd, k0, k1, k2, k3, k5, hC⟩ := T.cls
  refine wpAny_Call_Name_kw (ld_glob I hg hm ?_ hdb)
  have pa : PA X [e] (tCons te tNil) := pa_cons ha pa_nil he
  have h2 : (tCons te tNil) σ H (fun vs H1 => ∃ y, vs = [y] ∧ ∀ d H', H1 d = none → Same H1 H' → H' d = some (.xd [(("code" : Str), y)]) → Q (.ref C) (some d) H') := by
    have e1 : (fun (x : V) (H1 : Hp) => ∃ y, [x] = [y] ∧ ∀ d H', H1 d = none → Same H1 H' → H' d = some (.xd [(("code" : Str), y)]) → Q (.ref C) (some d) H') = (fun y H1 => ∀ d H', H1 d = none → Same H1 H' → H' d = some (.xd [(("code" : Str), y)]) → Q (.ref C) (some d) H') := by
      funext x H1
      simp
    show te σ H (fun (x : V) (H1 : Hp) => ∃ y, [x] = [y] ∧ ∀ d H', H1 d = none → Same H1 H' → H' d = some (.xd [(("code" : Str), y)]) → Q (.ref C) (some d) H')
    rw [e1]
    exact h
  refine PySem.W.callWith_K (h₀ := X.base) I.ok.mod.kin T.kC (thn (pa.run pos pins s σ H _ I h2) fun us s1 ⟨vs, H1, I1, r1, y, ev, q1⟩ => ⟨I1.kIn, ?_⟩) he hpl
  subst ev
  show wpAny _ _ (call (.ref C) us) _ _ _
  obtain ⟨hp, g, dr, tk, os⟩ := s1
  obtain ⟨a, hea⟩ : ∃ a, a = hp.objs.size + 1 := ⟨_, rfl⟩
  have ha1 : hp.objs.size ≤ a := by rw [hea]; exact Nat.le_succ _
  have hn : H1 a = none := I1.hok.fresh ha1
  have kk : ∀ b o, hp.get? b = some o → ((hp.push (PySem.W.kdv_tup us)).push (PySem.HandSPX.excO C hp.objs.size)).get? b = some o := fun b o z => Heap.get?_push_of_some _ (Heap.get?_push_of_some _ z)
  have hget : ((hp.push (PySem.W.kdv_tup us)).push (PySem.HandSPX.excO C hp.objs.size)).get? a = some (PySem.HandSPX.excO C hp.objs.size) := by rw [hea]; heap_get
  have I2 : Inv X pins σ (upd H1 a (exo a C none)) ⟨(hp.push (PySem.W.kdv_tup us)).push (PySem.HandSPX.excO C hp.objs.size), g, dr, tk, os⟩ :=
    I1.laid (t' := tk) (a := a) (o := exo a C none) (h' := (hp.push (PySem.W.kdv_tup us)).push (PySem.HandSPX.excO C hp.objs.size)) kk ha1 (exo_ok hget)
  have hq : spRefI C (.ref a :: [y]) (upd H1 a (exo a C none)) (fun v H2 => v = .non ∧ ∃ d, H2 a = some (exo a C (some d)) ∧ H2 d = some (exd d [(("code" : Str), y)]) ∧ H1 d = none ∧ Q (.ref C) (some d) (upd (del H2 a) d (.xd [(("code" : Str), y)]))) (fun _ _ _ => False) := by
    refine ⟨a, y, rfl, upd_same, fun d hd hda => ⟨rfl, d, upd_same, ?_, ?_, ?_⟩⟩
    · rw [upd_ne hda, upd_same]
    · rw [upd_ne hda] at hd; exact hd
    · rw [upd_ne hda] at hd
      refine q1 d _ hd (fun b o z => ?_) upd_same
      rw [upd_ne (ne_of_none z hd), del_ne (ne_of_none z hn), upd_ne (ne_of_none z hn), upd_ne (ne_of_none z hd), upd_ne (ne_of_none z hn)]
      exact z
  have r2 : Vals (V.ref a :: [y]) (Value.ref a :: us) := .cons rfl r1
  have hl : (Value.ref a :: us).length = (["self", "code"] : List Str).length := by rw [← r2.length]; rfl
  have hus : us.length ≤ sizeLine := by rw [← Paired.length r1, sizeLine_eq]; show 1 ≤ 16777216; decide
  have hb2 := hb _ (Value.ref a :: us) I2.kIn (by rw [List.append_nil]; exact hl)
  rw [List.append_nil] at hb2
  subst hea
  refine wpAny_call (PySem.HandSPX.call_own PySem.F.excBase_Exception (bm := PySem.ESX.exTail) (fun _ => rfl) (I1.kIn _ _ hC) (PySem.W.looks_findIn I1.kIn iC) (fun self => PySem.W.bind_fn I1.kIn self tI) hus
    (codeAny_mono (F1.run _ X.stack _ _ ⟨_, []⟩ _ _ _ (fun _ _ _ => False) (hr.make C us []) (I2.env0.make C us []) hb2 r2 hq) fun r s' hq' => ?_))
  cases r with
  | error er => exact hx pins σ _ _ er s' I2 hq'
  | ok fl =>
    cases fl with
    | ret u =>
      obtain ⟨v, H2, os2, bare2, un2, hok2, rv, ev, d, ea, ed, hd1, q2⟩ := hq'
      subst ev
      obtain ⟨h2, g2, d2, t2, os'⟩ := s'
      exact ⟨rv, mk_end (raises_own T.exC T.tyC) I1 ha1 kk un2 hok2 os2 bare2 ea ed hd1 q2⟩
    | next => exact False.elim hq'
    | brk => exact False.elim hq'
    | cont => exact False.elim hq'
end
end Lt
/-! # LtC: short words: instances by their names and values, defs and methods as bundles -/
namespace Lt
open PySem PySem.Spec PyProof.Rows L2

/-! ### attributes as names and values -/
theorem zip_look : ∀ {names : List Str} {vals : List V} {i : Nat} {f : Str} {v : V}, names.Nodup → names[i]? = some f → vals[i]? = some v → (names.zip vals).lookup f = some v
  | [], _, _, _, _, _, h, _ => by simp at h
  | _ :: _, [], _, _, _, _, _, h => by simp at h
  | n :: ns, x :: xs, 0, f, v, _, h1, h2 => by
    have e1 : n = f := Option.some.inj h1
    have e2 : x = v := Option.some.inj h2
    subst e1 e2
    show List.lookup n ((n, x) :: ns.zip xs) = some x
    simp [List.lookup]
  | n :: ns, x :: xs, i + 1, f, v, nd, h1, h2 => by
    have hm : f ∈ ns := List.mem_of_getElem? (i := i) (by simpa using h1)
    have ne : (f == n) = false := by
      rw [beq_eq_false_iff_ne]
      intro e
      exact (List.nodup_cons.mp nd).1 (e ▸ hm)
    show List.lookup f ((n, x) :: ns.zip xs) = some v
    simp only [List.lookup, ne]
    exact zip_look (i := i) (List.nodup_cons.mp nd).2 (by simpa using h1) (by simpa using h2)
theorem zip_look_none : ∀ {names : List Str} {vals : List V} {f : Str}, f ∉ names → (names.zip vals).lookup f = none
  | [], _, _, _ => rfl
  | _ :: _, [], _, _ => rfl
  | n :: ns, x :: xs, f, h => by
    have ne : (f == n) = false := by
      rw [beq_eq_false_iff_ne]
      intro e
      exact h (e ▸ List.mem_cons_self)
    show List.lookup f ((n, x) :: ns.zip xs) = none
    simp only [List.lookup, ne]
    exact zip_look_none fun z => h (List.mem_cons_of_mem _ z)
theorem put_set : ∀ {names : List Str} {vals : List V} {i : Nat} {f : Str} {y : V}, names.Nodup → names[i]? = some f → i < vals.length → putF f y (names.zip vals) = names.zip (vals.set i y)
  | [], _, _, _, _, _, h, _ => by simp at h
  | _ :: _, [], _, _, _, _, _, h => by simp at h
  | n :: ns, x :: xs, 0, f, y, _, h1, _ => by
    have e1 : n = f := Option.some.inj h1
    subst e1
    exact if_pos rfl
  | n :: ns, x :: xs, i + 1, f, y, nd, h1, h2 => by
    have hm : f ∈ ns := List.mem_of_getElem? (i := i) (by simpa using h1)
    have ne : ¬ n = f := fun e => (List.nodup_cons.mp nd).1 (e ▸ hm)
    show (if n = f then (n, y) :: ns.zip xs else (n, x) :: putF f y (ns.zip xs)) = (n, x) :: ns.zip (xs.set i y)
    rw [if_neg ne, put_set (i := i) (List.nodup_cons.mp nd).2 (by simpa using h1) (by simpa using h2)]
theorem put_new : ∀ {names : List Str} {vals : List V} {f : Str} {y : V}, names.Nodup → names[vals.length]? = some f → putF f y (names.zip vals) = names.zip (vals ++ [y])
  | [], _, _, _, _, h => by simp at h
  | n :: ns, [], f, y, _, h => by
    have e1 : n = f := Option.some.inj h
    subst e1
    show putF n y [] = [(n, y)] ++ ns.zip []
    simp [putF]
  | n :: ns, x :: xs, f, y, nd, h => by
    have hm : f ∈ ns := List.mem_of_getElem? (i := xs.length) (by simpa using h)
    have ne : ¬ n = f := fun e => (List.nodup_cons.mp nd).1 (e ▸ hm)
    show (if n = f then (n, y) :: ns.zip xs else (n, x) :: putF f y (ns.zip xs)) = (n, x) :: ns.zip (xs ++ [y])
    rw [if_neg ne, put_new (List.nodup_cons.mp nd).2 (by simpa using h)]
theorem zip_short (names : List Str) (vals : List V) (h : names.length ≤ 100) : (names.zip vals).length ≤ 100 := by
  rw [List.length_zip]
  omega
/-- what is asked of a class: how it is made up, that none of the names is the class's own -/
structure Kl (K : PySem.W.Frag) (C : Addr) (names : List Str) : Prop where
  cl : Cls K C
  no : ∀ f ∈ names, NoAttr K C f
  nd : names.Nodup
  sh : names.length ≤ 100
section
variable {X : Cx} {o e value : Expr} {f m : Str} {pos pos' tpos apos p : Pos} {ta tv : TE} {C : Addr} {names : List Str} {es : List Expr} {t : TA} {k j : Nat}
/-- e.f -/
def tF (C : Addr) (names : List Str) (i : Nat) (ta : TE) : TE := fun σ H Q => ta σ H fun x H1 => ∃ a dx vals v, x = .ref a ∧ H1 a = some (.ins C dx (names.zip vals)) ∧ vals[i]? = some v ∧ Q v H1
theorem PE.weak {e : Expr} {t t' : TE} (h : PE X e t) (i : ∀ σ H Q, t' σ H Q → t σ H Q) : PE X e t' := ⟨fun pins s σ H Q I q => h.run pins s σ H Q I (i σ H Q q)⟩
theorem pf_mono {e : Expr} {ta : TE} {A B : V → Hp → Prop} {α : Type} (h : PE X e ta) : True := trivial
theorem pe_f (i : Nat) (c : Kl X.K C names) (he : PE X e ta) (hi : names[i]? = some f := by rfl) (hb : attributeBase e f X.env (eval e X.env) = eval e X.env := by rfl) : PE X (.Attribute e f pos) (tF C names i ta) := by
  refine ⟨fun pins s σ H Q I h => ?_⟩
  refine attr_of hb (thn (he.run pins s σ H _ I h) fun u s1 ⟨x, H1, I1, rx, a, dx, vals, v, ex, ea, hv, q⟩ => ?_)
  subst ex
  obtain rfl : u = Value.ref a := rx
  exact getattr_ok I1 ea c.cl (c.no f (List.mem_of_getElem? hi)) (zip_look c.nd hi hv) fun u' s2 I2 ru => ⟨v, H1, I2, ru, q⟩
/-- self.f = e, the next attribute of a new instance -/
def tFNew (C : Addr) (names : List Str) (k : Nat) (ta tv : TE) : TS := fun D σ H => tv σ H fun y H1 => ta σ H1 fun x H2 => ∃ a dx vals, x = .ref a ∧ H2 a = some (.ins C dx (names.zip vals)) ∧ vals.length = k ∧ D.nx σ (upd H2 a (.ins C dx (names.zip (vals ++ [y]))))
theorem ps_fNew (k : Nat) (c : Kl X.K C names) (ha : PE X o ta) (hv : PE X value tv) (hi : names[k]? = some f := by rfl) (hs : swapsWith value (some (.Attribute o f pos')) pos.line X.env = pure false := by rfl) : PS X (.Assign [.Attribute o f pos'] value pos) (tFNew C names k ta tv) := by
  refine ⟨fun pins s σ H D I h => ?_⟩
  refine plainObj_wpAny_Assign_Attribute (thn (hv.run pins s σ H _ I h) fun u s1 ⟨y, H1, I1, ry, q⟩ => thn (ha.run pins s1 σ H1 _ I1 q) fun ov s2 ⟨x, H2, I2, rx, a, dx, vals, ex, ea, hl, q2⟩ => ?_) hs
  subst ex
  obtain rfl : ov = Value.ref a := rx
  refine setattr_ok I2 ea c.cl (c.no f (List.mem_of_getElem? hi)) (by have := zip_short names vals c.sh; omega) ry fun s3 I3 => ?_
  rw [put_new c.nd (by rw [hl]; exact hi)] at I3
  exact ⟨σ, _, I3, q2⟩
/-- o.f = e, an attribute that is there -/
def tFSet (C : Addr) (names : List Str) (i : Nat) (ta tv : TE) : TS := fun D σ H => tv σ H fun y H1 => ta σ H1 fun x H2 => ∃ a dx vals, x = .ref a ∧ H2 a = some (.ins C dx (names.zip vals)) ∧ i < vals.length ∧ D.nx σ (upd H2 a (.ins C dx (names.zip (vals.set i y))))
theorem ps_fSet (i : Nat) (c : Kl X.K C names) (ha : PE X o ta) (hv : PE X value tv) (hi : names[i]? = some f := by rfl) (hs : swapsWith value (some (.Attribute o f pos')) pos.line X.env = pure false := by rfl) : PS X (.Assign [.Attribute o f pos'] value pos) (tFSet C names i ta tv) := by
  refine ⟨fun pins s σ H D I h => ?_⟩
  refine plainObj_wpAny_Assign_Attribute (thn (hv.run pins s σ H _ I h) fun u s1 ⟨y, H1, I1, ry, q⟩ => thn (ha.run pins s1 σ H1 _ I1 q) fun ov s2 ⟨x, H2, I2, rx, a, dx, vals, ex, ea, hl, q2⟩ => ?_) hs
  subst ex
  obtain rfl : ov = Value.ref a := rx
  refine setattr_ok I2 ea c.cl (c.no f (List.mem_of_getElem? hi)) (by have := zip_short names vals c.sh; omega) ry fun s3 I3 => ?_
  rw [put_set c.nd hi hl] at I3
  exact ⟨σ, _, I3, q2⟩
/-- o.f += e, ints -/
def tFAug (C : Addr) (names : List Str) (i : Nat) (ta tv : TE) : TS := fun D σ H => ta σ H fun x H1 => ∃ a dx vals z, x = .ref a ∧ H1 a = some (.ins C dx (names.zip vals)) ∧ vals[i]? = some (.int z) ∧
  tv σ H1 fun y H2 => ∃ n dx' vals', y = .int n ∧ H2 a = some (.ins C dx' (names.zip vals')) ∧ i < vals'.length ∧ D.nx σ (upd H2 a (.ins C dx' (names.zip (vals'.set i (.int (z + n))))))
theorem ps_fAug (i : Nat) (c : Kl X.K C names) (ha : PE X o ta) (hv : PE X value tv) (hi : names[i]? = some f := by rfl) : PS X (.AugAssign (.Attribute o f tpos) .Add value pos) (tFAug C names i ta tv) := by
  refine ⟨fun pins s σ H D I h => ?_⟩
  have no := c.no f (List.mem_of_getElem? hi)
  refine wpAny_AugAssign_AttributeAny (thn (ha.run pins s σ H _ I h) fun ov s1 ⟨x, H1, I1, rx, a, dx, vals, z, ex, ea, hz, q⟩ => ?_)
  subst ex
  obtain rfl : ov = Value.ref a := rx
  refine getattr_ok I1 ea c.cl no (zip_look c.nd hi hz) fun u s2 I2 ru => thn (hv.run pins s2 σ H1 _ I2 q) fun w3 s3 ⟨y, H2, I3, ry, n, dx', vals', ey, ea', hl, q3⟩ => ?_
  subst ey
  refine thn (in_add pins s3 σ H2 (.int z) (.int n) u w3 (fun v H' => v = .int (z + n) ∧ H' = H2) I3 ru ry ⟨z, n, rfl, rfl, rfl, rfl⟩) fun w4 s4 ⟨v4, H4, I4, r4, e4, e5⟩ => ?_
  subst e4 e5
  refine setattr_ok I4 ea' c.cl no (by have := zip_short names vals' c.sh; omega) r4 fun s5 I5 => ?_
  rw [put_set c.nd hi hl] at I5
  exact ⟨σ, _, I5, q3⟩
end

/-! ### defs, methods, classes that may be called -/
structure FnA (P : Program) (w : World) (K : PySem.W.Frag) (mg : Str → Option Value) (base : Heap) (CX : CXT) (k : Nat) (x : Str) (sp : Sp) : Prop where
  ex : ∃ (f : Addr) (fd : FuncData) (ps : List Str), FnOk P w K mg base CX k f fd ps sp ∧ mg x = some (.ref f) ∧ PySem.W.keepIn K (.ref f) = true ∧ Binds K fd ps []
structure MtA (P : Program) (w : World) (K : PySem.W.Frag) (mg : Str → Option Value) (base : Heap) (k : Nat) (C : Addr) (m : Str) (sp : Sp) : Prop where
  ex : ∃ (f : Addr) (fd : FuncData) (ps : List Str), Cls K C ∧ Meth K C m f ∧ FnOk P w K mg base CX0 k f fd ps sp ∧ Binds K fd ps []
structure MkA (P : Program) (w : World) (K : PySem.W.Frag) (mg : Str → Option Value) (base : Heap) (k : Nat) (x : Str) (C : Addr) (sp : Sp) : Prop where
  ex : ∃ (f : Addr) (fd : FuncData) (ps : List Str), Mk K C f ∧ FnOk P w K mg base CX0 k f fd ps sp ∧ mg x = some (.ref C) ∧ Binds K fd ps []
section
variable {X : Cx} {o e : Expr} {x m : Str} {pos apos p : Pos} {ta : TE} {C : Addr} {names : List Str} {es : List Expr} {t : TA} {k j : Nat} {sp : Sp} {W : WX}
def tCl (sp : Sp) (t : TA) : TE := fun σ H Q => t σ H fun vs H1 => sp vs H1 Q E0
def tClX (sp : Sp) (W : WX) (t : TA) : TE := fun σ H Q => t σ H fun vs H1 => sp vs H1 Q (fun cls d H' => W cls d σ H')
def tMe (C : Addr) (names : List Str) (sp : Sp) (ta : TE) (t : TA) : TE := fun σ H Q => ta σ H fun x H1 => ∃ a dx vals, x = .ref a ∧ H1 a = some (.ins C dx (names.zip vals)) ∧ t σ H1 fun vs H2 => sp (x :: vs) H2 Q E0
def tMa (C : Addr) (sp : Sp) (t : TA) : TE := fun σ H Q => t σ H fun vs H1 => ∀ x dx, H1 x = none → H1 dx = none → dx ≠ x → sp (.ref x :: vs) (upd (upd H1 dx (.own x)) x (.ins C dx [])) (fun v H2 => v = .non ∧ Q (.ref x) H2) E0
/-- f(e, ..) -/
theorem pc (c : FnA X.prog X.w X.K X.mg X.base CX0 k x sp) (hr : Room j X.A) (hk : k ≤ j) (ha : PA X (e :: es) t) (hg : Gl X x := by rfl)
    (hdb : (x == ("__debug__" : Str)) = false := by decide) (he : starEach (e :: es) X.env = (false, eval e X.env) :: starEach es X.env := by rfl) (hpl : (backTo pos (starEach es X.env)).any (·.1) = false := by rfl) :
    PE X (.Call (.Name x p) (e :: es) [] pos) (tCl sp t) := by
  obtain ⟨f, fd, ps, F, hm, kp, b⟩ := c.ex
  refine PE.weak (pe_call F (hr.mono hk) hg hm kp b .nil pass0 ha hdb he hpl) fun σ H Q h => ?_
  show t σ H fun vs H1 => sp (vs ++ []) H1 Q E0
  simp only [List.append_nil]
  exact h
/-- f(e, ..), f may raise -/
theorem pcx (c : FnA X.prog X.w X.K X.mg X.base (L2.CX X.prog X.w) k x sp) (hr : Room j X.A) (hk : k ≤ j) (tk : Takes X W) (ha : PA X (e :: es) t) (hg : Gl X x := by rfl)
    (hdb : (x == ("__debug__" : Str)) = false := by decide) (he : starEach (e :: es) X.env = (false, eval e X.env) :: starEach es X.env := by rfl) (hpl : (backTo pos (starEach es X.env)).any (·.1) = false := by rfl) :
    PE X (.Call (.Name x p) (e :: es) [] pos) (tClX sp W t) := by
  obtain ⟨f, fd, ps, F, hm, kp, b⟩ := c.ex
  exact pe_callS F (hr.mono hk) hg hm kp b (fun σ => passAt tk σ) ha hdb he hpl
/-- o.m(e, ..) -/
theorem pm {pl : Sem Bool} (c : MtA X.prog X.w X.K X.mg X.base k C m sp) (hr : Room j X.A) (hk : k ≤ j) (hno : m ∉ names) (he : PE X o ta) (ha : PA X (e :: es) t)
    (hst : starEach (e :: es) X.env = (false, eval e X.env) :: starEach es X.env := by rfl) (hpl : (backTo pos (starEach es X.env)).any (·.1) = false := by rfl)
    (ht : eval (.Call (.Attribute o m apos) (e :: es) [] pos) X.env = (do
      let ov ← eval o X.env
      standAt apos.atName
      let (f, first) ← holding [ov] (getMethod ov m pl)
      callWith pos f first (backTo pos (starEach (e :: es) X.env)) (backToKw pos (keywordEach [] X.env))) := by rfl) :
    PE X (.Call (.Attribute o m apos) (e :: es) [] pos) (tMe C names sp ta t) := by
  obtain ⟨f, fd, ps, hc, hm, F, b⟩ := c.ex
  refine ⟨fun pins s σ H Q I h => ?_⟩
  refine PySem.W.methodCall_KW (pl := pl) (thn (he.run pins s σ H _ I h) fun u s1 ⟨x, H1, I1, rx, a, dx, vals, ex, ea, q⟩ => ?_) ht
  subst ex
  obtain rfl : u = Value.ref a := rx
  refine getmeth_ok I1 ea hc hm (zip_look_none hno) ?_
  refine PySem.W.callWith_K (first := [.ref a]) (h₀ := X.base) I.ok.mod.kin hm.kp (thn (ha.run pos pins s1 σ H1 _ I1 q) fun us s2 ⟨vs, H2, I2, r, q2⟩ => ⟨I2.kIn, ?_⟩) hst hpl
  exact run_fn (us := .ref a :: us) (vs := .ref a :: vs) (dvs := []) F (hr.mono hk) b .nil pass0 I2 (.cons rfl r) (by rw [List.append_nil]; exact q2)
/-- o.m() -/
theorem pm0 {pl : Sem Bool} (c : MtA X.prog X.w X.K X.mg X.base k C m sp) (hr : Room j X.A) (hk : k ≤ j) (hno : m ∉ names) (he : PE X o ta)
    (ht : eval (.Call (.Attribute o m apos) [] [] pos) X.env = (do
      let ov ← eval o X.env
      standAt apos.atName
      let (f, first) ← holding [ov] (getMethod ov m pl)
      callWith pos f first (backTo pos (starEach [] X.env)) (backToKw pos (keywordEach [] X.env))) := by rfl) :
    PE X (.Call (.Attribute o m apos) [] [] pos) (tMe C names sp ta tNil) := by
  obtain ⟨f, fd, ps, hc, hm, F, b⟩ := c.ex
  refine ⟨fun pins s σ H Q I h => ?_⟩
  refine PySem.W.methodCall_KW (pl := pl) (thn (he.run pins s σ H _ I h) fun u s1 ⟨x, H1, I1, rx, a, dx, vals, ex, ea, q⟩ => ?_) ht
  subst ex
  obtain rfl : u = Value.ref a := rx
  refine getmeth_ok I1 ea hc hm (zip_look_none hno) ?_
  exact PySem.W.callWith_K0 (first := [.ref a]) I1.kIn hm.kp (run_fn (us := [.ref a]) (vs := [.ref a]) (dvs := []) F (hr.mono hk) b .nil pass0 I1 (.cons rfl .nil) q)
/-- C(e, ..) -/
theorem pmk (c : MkA X.prog X.w X.K X.mg X.base k x C sp) (hr : Room j X.A) (hk : k + 1 ≤ j) (ha : PA X (e :: es) t) (hg : Gl X x := by rfl)
    (hdb : (x == ("__debug__" : Str)) = false := by decide) (he : starEach (e :: es) X.env = (false, eval e X.env) :: starEach es X.env := by rfl) (hpl : (backTo pos (starEach es X.env)).any (·.1) = false := by rfl) :
    PE X (.Call (.Name x p) (e :: es) [] pos) (tMa C sp t) := by
  obtain ⟨f, fd, ps, M, F, hm, b⟩ := c.ex
  refine PE.weak (pe_make M F (hr.mono hk) hg hm b .nil pass0 ha hdb he hpl) fun σ H Q h => ?_
  show t σ H fun vs H1 => ∀ x dx, H1 x = none → H1 dx = none → dx ≠ x → sp (.ref x :: (vs ++ [])) (upd (upd H1 dx (.own x)) x (.ins C dx [])) (fun v H2 => v = .non ∧ Q (.ref x) H2) E0
  simp only [List.append_nil]
  exact h
/-- C() -/
theorem pmk0 (c : MkA X.prog X.w X.K X.mg X.base k x C sp) (hr : Room j X.A) (hk : k + 1 ≤ j) (hg : Gl X x := by rfl) (hdb : (x == ("__debug__" : Str)) = false := by decide) :
    PE X (.Call (.Name x p) [] [] pos) (tMa C sp tNil) := by
  obtain ⟨f, fd, ps, M, F, hm, b⟩ := c.ex
  exact pe_make0 M F (hr.mono hk) hg hm b .nil pass0 hdb
end

/-! ### a class whose __init__ stores its arguments, in order -/
def spRec (C : Addr) (names : List Str) : Sp := fun vs H Q _ => ∃ (a dx : Addr) (vals : List V), vs = .ref a :: vals ∧ vals.length = names.length ∧ H a = some (.ins C dx []) ∧ Q .non (upd H a (.ins C dx (names.zip vals)))
def tRec (C : Addr) (names : List Str) (t : TA) : TE := fun σ H Q => t σ H fun vs H1 => vs.length = names.length ∧ ∀ a H', H1 a = none → Same H1 H' → (∃ dx, H' a = some (.ins C dx (names.zip vs))) → Q (.ref a) H'
theorem same_made {H : Hp} {a dx C : Addr} {fs : List (Str × V)} (ha : H a = none) (hd : H dx = none) : Same H (upd (upd H dx (.own a)) a (.ins C dx fs)) := fun b o e => by
  rw [upd_ne (ne_of_none e ha), upd_ne (ne_of_none e hd)]
  exact e
/-- readings that only weaken -/
structure MonoA (t : TA) : Prop where
  mono : ∀ σ H Q Q', (∀ vs H1, Q vs H1 → Q' vs H1) → t σ H Q → t σ H Q'
end Lt
/-! # LtT: the text by places; what the top has written -/
namespace Lt
open PySem PySem.Spec PyProof.Rows L2
def top (i : Nat) : Stmt := PySem.Challenge.pw_lasttricksdesk_s01_answers.main.body.getD i (.Pass ⟨0, 0, 0, 0⟩)
abbrev s_Refused_init : Stmt := inClass (top 1) 0
abbrev N_Refused_init : List Str := ["self", "code"]
theorem sc_Refused_init : FnScope N_Refused_init ["self", "code"] (defScope s_Refused_init) := ⟨rfl, rfl, rfl, by decide +kernel, rfl, by decide +kernel, by decide +kernel⟩
abbrev s_allow : Stmt := top 2
abbrev N_allow : List Str := ["condition", "code"]
theorem sc_allow : FnScope N_allow ["condition", "code"] (defScope s_allow) := ⟨rfl, rfl, rfl, by decide +kernel, rfl, by decide +kernel, by decide +kernel⟩
abbrev s_Position_init : Stmt := inClass (top 7) 0
abbrev N_Position_init : List Str := ["self", "hands", "trump", "leader", "trick"]
theorem sc_Position_init : FnScope N_Position_init ["self", "hands", "trump", "leader", "trick"] (defScope s_Position_init) := ⟨rfl, rfl, rfl, by decide +kernel, rfl, by decide +kernel, by decide +kernel⟩
abbrev s_suit_of : Stmt := top 8
abbrev N_suit_of : List Str := ["card"]
theorem sc_suit_of : FnScope N_suit_of ["card"] (defScope s_suit_of) := ⟨rfl, rfl, rfl, by decide +kernel, rfl, by decide +kernel, by decide +kernel⟩
abbrev s_side_of : Stmt := top 9
abbrev N_side_of : List Str := ["seat"]
theorem sc_side_of : FnScope N_side_of ["seat"] (defScope s_side_of) := ⟨rfl, rfl, rfl, by decide +kernel, rfl, by decide +kernel, by decide +kernel⟩
abbrev s_seat_on_turn : Stmt := top 10
abbrev N_seat_on_turn : List Str := ["position"]
theorem sc_seat_on_turn : FnScope N_seat_on_turn ["position"] (defScope s_seat_on_turn) := ⟨rfl, rfl, rfl, by decide +kernel, rfl, by decide +kernel, by decide +kernel⟩
abbrev s_hand_on_turn : Stmt := top 11
abbrev N_hand_on_turn : List Str := ["position"]
theorem sc_hand_on_turn : FnScope N_hand_on_turn ["position"] (defScope s_hand_on_turn) := ⟨rfl, rfl, rfl, by decide +kernel, rfl, by decide +kernel, by decide +kernel⟩
abbrev s_playable : Stmt := top 12
abbrev N_playable : List Str := ["position", "hand", "suit", "following", "card"]
theorem sc_playable : FnScope N_playable ["position"] (defScope s_playable) := ⟨rfl, rfl, rfl, by decide +kernel, rfl, by decide +kernel, by decide +kernel⟩
abbrev s_cards_left : Stmt := top 13
abbrev N_cards_left : List Str := ["position", "hand"]
theorem sc_cards_left : FnScope N_cards_left ["position"] (defScope s_cards_left) := ⟨rfl, rfl, rfl, by decide +kernel, rfl, by decide +kernel, by decide +kernel⟩
abbrev s_tricks_left : Stmt := top 14
abbrev N_tricks_left : List Str := ["position"]
theorem sc_tricks_left : FnScope N_tricks_left ["position"] (defScope s_tricks_left) := ⟨rfl, rfl, rfl, by decide +kernel, rfl, by decide +kernel, by decide +kernel⟩
abbrev s_beats : Stmt := top 15
abbrev N_beats : List Str := ["card", "best", "trump"]
theorem sc_beats : FnScope N_beats ["card", "best", "trump"] (defScope s_beats) := ⟨rfl, rfl, rfl, by decide +kernel, rfl, by decide +kernel, by decide +kernel⟩
abbrev s_winning_seat : Stmt := top 16
abbrev N_winning_seat : List Str := ["trick", "trump", "leader", "best", "i"]
theorem sc_winning_seat : FnScope N_winning_seat ["trick", "trump", "leader"] (defScope s_winning_seat) := ⟨rfl, rfl, rfl, by decide +kernel, rfl, by decide +kernel, by decide +kernel⟩
abbrev s_hands_without : Stmt := top 17
abbrev N_hands_without : List Str := ["hands", "seat", "card", "left", "other"]
theorem sc_hands_without : FnScope N_hands_without ["hands", "seat", "card"] (defScope s_hands_without) := ⟨rfl, rfl, rfl, by decide +kernel, rfl, by decide +kernel, by decide +kernel⟩
abbrev s_position_after : Stmt := top 18
abbrev N_position_after : List Str := ["position", "card", "hands", "trick"]
theorem sc_position_after : FnScope N_position_after ["position", "card"] (defScope s_position_after) := ⟨rfl, rfl, rfl, by decide +kernel, rfl, by decide +kernel, by decide +kernel⟩
abbrev s_side_of_trick : Stmt := top 19
abbrev N_side_of_trick : List Str := ["position", "card"]
theorem sc_side_of_trick : FnScope N_side_of_trick ["position", "card"] (defScope s_side_of_trick) := ⟨rfl, rfl, rfl, by decide +kernel, rfl, by decide +kernel, by decide +kernel⟩
abbrev s_tricks_of_side_0 : Stmt := top 20
abbrev N_tricks_of_side_0 : List Str := ["position", "card"]
theorem sc_tricks_of_side_0 : FnScope N_tricks_of_side_0 ["position", "card"] (defScope s_tricks_of_side_0) := ⟨rfl, rfl, rfl, by decide +kernel, rfl, by decide +kernel, by decide +kernel⟩
abbrev s_Valuer_init : Stmt := inClass (top 22) 0
abbrev N_Valuer_init : List Str := ["self"]
theorem sc_Valuer_init : FnScope N_Valuer_init ["self"] (defScope s_Valuer_init) := ⟨rfl, rfl, rfl, by decide +kernel, rfl, by decide +kernel, by decide +kernel⟩
abbrev s_Valuer_value : Stmt := inClass (top 22) 1
abbrev N_Valuer_value : List Str := ["self", "position", "key"]
theorem sc_Valuer_value : FnScope N_Valuer_value ["self", "position"] (defScope s_Valuer_value) := ⟨rfl, rfl, rfl, by decide +kernel, rfl, by decide +kernel, by decide +kernel⟩
abbrev s_Valuer_value_by : Stmt := inClass (top 22) 2
abbrev N_Valuer_value_by : List Str := ["self", "position", "card"]
theorem sc_Valuer_value_by : FnScope N_Valuer_value_by ["self", "position", "card"] (defScope s_Valuer_value_by) := ⟨rfl, rfl, rfl, by decide +kernel, rfl, by decide +kernel, by decide +kernel⟩
abbrev s_Valuer_best_value : Stmt := inClass (top 22) 3
abbrev N_Valuer_best_value : List Str := ["self", "position", "found", "card"]
theorem sc_Valuer_best_value : FnScope N_Valuer_best_value ["self", "position"] (defScope s_Valuer_best_value) := ⟨rfl, rfl, rfl, by decide +kernel, rfl, by decide +kernel, by decide +kernel⟩
abbrev s_Valuer_gift : Stmt := inClass (top 22) 4
abbrev N_Valuer_gift : List Str := ["self", "position", "card", "difference"]
theorem sc_Valuer_gift : FnScope N_Valuer_gift ["self", "position", "card"] (defScope s_Valuer_gift) := ⟨rfl, rfl, rfl, by decide +kernel, rfl, by decide +kernel, by decide +kernel⟩
abbrev s_Valuer_least_keeping : Stmt := inClass (top 22) 5
abbrev N_Valuer_least_keeping : List Str := ["self", "position", "card"]
theorem sc_Valuer_least_keeping : FnScope N_Valuer_least_keeping ["self", "position"] (defScope s_Valuer_least_keeping) := ⟨rfl, rfl, rfl, by decide +kernel, rfl, by decide +kernel, by decide +kernel⟩
abbrev s_Valuer_best_line : Stmt := inClass (top 22) 6
abbrev N_Valuer_best_line : List Str := ["self", "position", "cards", "card"]
theorem sc_Valuer_best_line : FnScope N_Valuer_best_line ["self", "position"] (defScope s_Valuer_best_line) := ⟨rfl, rfl, rfl, by decide +kernel, rfl, by decide +kernel, by decide +kernel⟩
abbrev s_Account_init : Stmt := inClass (top 23) 0
abbrev N_Account_init : List Str := ["self", "start_value"]
theorem sc_Account_init : FnScope N_Account_init ["self", "start_value"] (defScope s_Account_init) := ⟨rfl, rfl, rfl, by decide +kernel, rfl, by decide +kernel, by decide +kernel⟩
abbrev s_Account_as_numbers : Stmt := inClass (top 23) 1
abbrev N_Account_as_numbers : List Str := ["self", "given"]
theorem sc_Account_as_numbers : FnScope N_Account_as_numbers ["self"] (defScope s_Account_as_numbers) := ⟨rfl, rfl, rfl, by decide +kernel, rfl, by decide +kernel, by decide +kernel⟩
abbrev s_account_of : Stmt := top 24
abbrev N_account_of : List Str := ["valuer", "position", "cards", "account", "card", "gift"]
theorem sc_account_of : FnScope N_account_of ["valuer", "position", "cards"] (defScope s_account_of) := ⟨rfl, rfl, rfl, by decide +kernel, rfl, by decide +kernel, by decide +kernel⟩
abbrev s_State_init : Stmt := inClass (top 30) 0
abbrev N_State_init : List Str := ["self", "position", "won"]
theorem sc_State_init : FnScope N_State_init ["self", "position", "won"] (defScope s_State_init) := ⟨rfl, rfl, rfl, by decide +kernel, rfl, by decide +kernel, by decide +kernel⟩
abbrev s_Ending_init : Stmt := inClass (top 31) 0
abbrev N_Ending_init : List Str := ["self"]
theorem sc_Ending_init : FnScope N_Ending_init ["self"] (defScope s_Ending_init) := ⟨rfl, rfl, rfl, by decide +kernel, rfl, by decide +kernel, by decide +kernel⟩
abbrev s_Ending_dealt : Stmt := inClass (top 31) 1
abbrev N_Ending_dealt : List Str := ["self"]
theorem sc_Ending_dealt : FnScope N_Ending_dealt ["self"] (defScope s_Ending_dealt) := ⟨rfl, rfl, rfl, by decide +kernel, rfl, by decide +kernel, by decide +kernel⟩
abbrev s_Ending_present : Stmt := inClass (top 31) 2
abbrev N_Ending_present : List Str := ["self"]
theorem sc_Ending_present : FnScope N_Ending_present ["self"] (defScope s_Ending_present) := ⟨rfl, rfl, rfl, by decide +kernel, rfl, by decide +kernel, by decide +kernel⟩
abbrev s_Ending_won_now : Stmt := inClass (top 31) 3
abbrev N_Ending_won_now : List Str := ["self"]
theorem sc_Ending_won_now : FnScope N_Ending_won_now ["self"] (defScope s_Ending_won_now) := ⟨rfl, rfl, rfl, by decide +kernel, rfl, by decide +kernel, by decide +kernel⟩
abbrev s_allow_card : Stmt := top 32
abbrev N_allow_card : List Str := ["card"]
theorem sc_allow_card : FnScope N_allow_card ["card"] (defScope s_allow_card) := ⟨rfl, rfl, rfl, by decide +kernel, rfl, by decide +kernel, by decide +kernel⟩
abbrev s_allow_cards : Stmt := top 33
abbrev N_allow_cards : List Str := ["cards", "most", "card"]
theorem sc_allow_cards : FnScope N_allow_cards ["cards", "most"] (defScope s_allow_cards) := ⟨rfl, rfl, rfl, by decide +kernel, rfl, by decide +kernel, by decide +kernel⟩
abbrev s_told_cards : Stmt := top 34
abbrev N_told_cards : List Str := ["cards"]
theorem sc_told_cards : FnScope N_told_cards ["cards"] (defScope s_told_cards) := ⟨rfl, rfl, rfl, by decide +kernel, rfl, by decide +kernel, by decide +kernel⟩
abbrev s_turn_numbers : Stmt := top 35
abbrev N_turn_numbers : List Str := ["ending"]
theorem sc_turn_numbers : FnScope N_turn_numbers ["ending"] (defScope s_turn_numbers) := ⟨rfl, rfl, rfl, by decide +kernel, rfl, by decide +kernel, by decide +kernel⟩
abbrev s_are_unlike : Stmt := top 36
abbrev N_are_unlike : List Str := ["cards"]
theorem sc_are_unlike : FnScope N_are_unlike ["cards"] (defScope s_are_unlike) := ⟨rfl, rfl, rfl, by decide +kernel, rfl, by decide +kernel, by decide +kernel⟩
abbrev s_deal : Stmt := top 37
abbrev N_deal : List Str := ["ending", "trump", "leader", "hands", "hand", "rising"]
theorem sc_deal : FnScope N_deal ["ending", "trump", "leader", "hands"] (defScope s_deal) := ⟨rfl, rfl, rfl, by decide +kernel, rfl, by decide +kernel, by decide +kernel⟩
abbrev s_won_after : Stmt := top 38
abbrev N_won_after : List Str := ["state", "card", "side"]
theorem sc_won_after : FnScope N_won_after ["state", "card"] (defScope s_won_after) := ⟨rfl, rfl, rfl, by decide +kernel, rfl, by decide +kernel, by decide +kernel⟩
abbrev s_play : Stmt := top 39
abbrev N_play : List Str := ["ending", "card", "position"]
theorem sc_play : FnScope N_play ["ending", "card"] (defScope s_play) := ⟨rfl, rfl, rfl, by decide +kernel, rfl, by decide +kernel, by decide +kernel⟩
abbrev s_back : Stmt := top 40
abbrev N_back : List Str := ["ending"]
theorem sc_back : FnScope N_back ["ending"] (defScope s_back) := ⟨rfl, rfl, rfl, by decide +kernel, rfl, by decide +kernel, by decide +kernel⟩
abbrev s_turn : Stmt := top 41
abbrev N_turn : List Str := ["ending"]
theorem sc_turn : FnScope N_turn ["ending"] (defScope s_turn) := ⟨rfl, rfl, rfl, by decide +kernel, rfl, by decide +kernel, by decide +kernel⟩
abbrev s_value : Stmt := top 42
abbrev N_value : List Str := ["ending"]
theorem sc_value : FnScope N_value ["ending"] (defScope s_value) := ⟨rfl, rfl, rfl, by decide +kernel, rfl, by decide +kernel, by decide +kernel⟩
abbrev s_cards_with_values : Stmt := top 43
abbrev N_cards_with_values : List Str := ["ending", "position", "numbers", "card"]
theorem sc_cards_with_values : FnScope N_cards_with_values ["ending"] (defScope s_cards_with_values) := ⟨rfl, rfl, rfl, by decide +kernel, rfl, by decide +kernel, by decide +kernel⟩
abbrev s_line : Stmt := top 44
abbrev N_line : List Str := ["ending"]
theorem sc_line : FnScope N_line ["ending"] (defScope s_line) := ⟨rfl, rfl, rfl, by decide +kernel, rfl, by decide +kernel, by decide +kernel⟩
abbrev s_account : Stmt := top 45
abbrev N_account : List Str := ["ending", "cards", "found"]
theorem sc_account : FnScope N_account ["ending", "cards"] (defScope s_account) := ⟨rfl, rfl, rfl, by decide +kernel, rfl, by decide +kernel, by decide +kernel⟩
abbrev s_past : Stmt := top 46
abbrev N_past : List Str := ["ending"]
theorem sc_past : FnScope N_past ["ending"] (defScope s_past) := ⟨rfl, rfl, rfl, by decide +kernel, rfl, by decide +kernel, by decide +kernel⟩
abbrev s_table : Stmt := top 47
abbrev N_table : List Str := ["ending", "position", "numbers", "trump", "leader"]
theorem sc_table : FnScope N_table ["ending"] (defScope s_table) := ⟨rfl, rfl, rfl, by decide +kernel, rfl, by decide +kernel, by decide +kernel⟩
abbrev s_cards_elsewhere : Stmt := top 48
abbrev N_cards_elsewhere : List Str := ["position", "seat", "cards", "other"]
theorem sc_cards_elsewhere : FnScope N_cards_elsewhere ["position", "seat"] (defScope s_cards_elsewhere) := ⟨rfl, rfl, rfl, by decide +kernel, rfl, by decide +kernel, by decide +kernel⟩
abbrev s_is_one_between : Stmt := top 49
abbrev N_is_one_between : List Str := ["cards", "first", "second", "card"]
theorem sc_is_one_between : FnScope N_is_one_between ["cards", "first", "second"] (defScope s_is_one_between) := ⟨rfl, rfl, rfl, by decide +kernel, rfl, by decide +kernel, by decide +kernel⟩
abbrev s_alike : Stmt := top 50
abbrev N_alike : List Str := ["ending", "card", "position", "seats", "elsewhere", "found", "other", "seat"]
theorem sc_alike : FnScope N_alike ["ending", "card"] (defScope s_alike) := ⟨rfl, rfl, rfl, by decide +kernel, rfl, by decide +kernel, by decide +kernel⟩
abbrev s_squeezed_card : Stmt := top 51
abbrev N_squeezed_card : List Str := ["card", "all_cards", "higher", "other"]
theorem sc_squeezed_card : FnScope N_squeezed_card ["card", "all_cards"] (defScope s_squeezed_card) := ⟨rfl, rfl, rfl, by decide +kernel, rfl, by decide +kernel, by decide +kernel⟩
abbrev s_squeezed : Stmt := top 52
abbrev N_squeezed : List Str := ["ending", "position", "groups", "all_cards", "group", "numbers", "card"]
theorem sc_squeezed : FnScope N_squeezed ["ending"] (defScope s_squeezed) := ⟨rfl, rfl, rfl, by decide +kernel, rfl, by decide +kernel, by decide +kernel⟩
abbrev s_truth : Stmt := top 53
abbrev N_truth : List Str := ["condition"]
theorem sc_truth : FnScope N_truth ["condition"] (defScope s_truth) := ⟨rfl, rfl, rfl, by decide +kernel, rfl, by decide +kernel, by decide +kernel⟩
abbrev s_can : Stmt := top 54
abbrev N_can : List Str := ["ending", "side", "k", "position", "worth"]
theorem sc_can : FnScope N_can ["ending", "side", "k"] (defScope s_can) := ⟨rfl, rfl, rfl, by decide +kernel, rfl, by decide +kernel, by decide +kernel⟩
abbrev s_told : Stmt := top 55
abbrev N_told : List Str := ["ending", "position", "numbers", "hand"]
theorem sc_told : FnScope N_told ["ending"] (defScope s_told) := ⟨rfl, rfl, rfl, by decide +kernel, rfl, by decide +kernel, by decide +kernel⟩
abbrev s_Call_init : Stmt := inClass (top 59) 0
abbrev N_Call_init : List Str := ["self", "place", "numbers", "rows"]
theorem sc_Call_init : FnScope N_Call_init ["self", "place", "numbers", "rows"] (defScope s_Call_init) := ⟨rfl, rfl, rfl, by decide +kernel, rfl, by decide +kernel, by decide +kernel⟩
abbrev s_calls_of : Stmt := top 60
abbrev N_calls_of : List Str := ["calls", "found", "start", "place", "end", "numbers", "rows", "count"]
theorem sc_calls_of : FnScope N_calls_of ["calls"] (defScope s_calls_of) := ⟨rfl, rfl, rfl, by decide +kernel, rfl, by decide +kernel, by decide +kernel⟩
abbrev s_answer_with_arguments : Stmt := top 61
abbrev N_answer_with_arguments : List Str := ["ending", "call"]
theorem sc_answer_with_arguments : FnScope N_answer_with_arguments ["ending", "call"] (defScope s_answer_with_arguments) := ⟨rfl, rfl, rfl, by decide +kernel, rfl, by decide +kernel, by decide +kernel⟩
abbrev s_answer_without_arguments : Stmt := top 62
abbrev N_answer_without_arguments : List Str := ["ending", "call"]
theorem sc_answer_without_arguments : FnScope N_answer_without_arguments ["ending", "call"] (defScope s_answer_without_arguments) := ⟨rfl, rfl, rfl, by decide +kernel, rfl, by decide +kernel, by decide +kernel⟩
abbrev s_answer : Stmt := top 63
abbrev N_answer : List Str := ["ending", "call", "refusal"]
theorem sc_answer : FnScope N_answer ["ending", "call"] (defScope s_answer) := ⟨rfl, rfl, rfl, by decide +kernel, rfl, by decide +kernel, by decide +kernel⟩
abbrev s_answers : Stmt := top 64
abbrev N_answers : List Str := ["calls", "ending", "result", "call", "numbers"]
theorem sc_answers : FnScope N_answers ["calls"] (defScope s_answers) := ⟨rfl, rfl, rfl, by decide +kernel, rfl, by decide +kernel, by decide +kernel⟩
structure Ads where
  R : Addr
  P : Addr
  V : Addr
  A : Addr
  S : Addr
  E : Addr
  C : Addr
abbrev nP : List Str := ["hands", "trump", "leader", "trick"]
abbrev nV : List Str := ["known"]
abbrev nA : List Str := ["start_value", "gifts", "gifts_of_sides", "tricks", "end_value"]
abbrev nS : List Str := ["position", "won"]
abbrev nE : List Str := ["states", "played", "valuer"]
abbrev nC : List Str := ["place", "numbers", "rows"]
def GI (mg : Str → Option Value) (x : Str) (n : Int) : Prop := ∃ t, mg x = some (.int n t)
def GT (K : PySem.W.Frag) (mg : Str → Option Value) (x : Str) (xs : List V) : Prop := ∃ b, mg x = some (.ref b) ∧ ∃ (o : Obj) (its : Array Value) (n : Nat), K.lookup b = some o ∧ o.cls = .type "tuple" ∧ o.data = .seq its n ∧ its.size ≤ sizeLine ∧ Vals xs its.toList
def tGT (K : PySem.W.Frag) (xs : List V) : TE := fun _ H Q => ∀ b, (∀ H', SqT K H' b xs) → Q (.ref b) H
section
variable {X : Cx} {x : Str} {pos : Pos}
theorem pgc {n : Int} (h : GI X.mg x n) (hg : Gl X x := by rfl) (hd : (x == ("__debug__" : Str)) = false := by decide) : PE X (.Name x pos) (tC (.int n)) := by
  obtain ⟨t, hm⟩ := h
  exact pe_glob hg hm ⟨t, rfl⟩ hd
theorem pgt {xs : List V} (h : GT X.K X.mg x xs) (hg : Gl X x := by rfl) (hd : (x == ("__debug__" : Str)) = false := by decide) : PE X (.Name x pos) (tGT X.K xs) := by
  obtain ⟨b, hm, o, its, n, h1, h2, h3, h4, h5⟩ := h
  exact PE.weak (pe_glob (v := .ref b) hg hm rfl hd) fun σ H Q q => q b fun H' => .inr ⟨o, its, n, h1, h2, h3, h4, h5⟩
end
/-! ### rules whose reading names K outright (a comprehension's element is read in a context of its own) -/
def rLen (K : PySem.W.Frag) : List V → Hp → VK → Prop := fun xs H Q => ∃ p ys, xs = [.ref p] ∧ (SqL K H p ys ∨ SqT K H p ys) ∧ Q (.int ys.length) H
def rTupOf (K : PySem.W.Frag) : List V → Hp → VK → Prop := fun xs H Q => ∃ p ys, xs = [.ref p] ∧ ((SqL K H p ys ∧ ∀ l, H l = none → Q (.ref l) (upd H l (.tup ys))) ∨ (SqT K H p ys ∧ Q (.ref p) H))
def rLstOf (K : PySem.W.Frag) : List V → Hp → VK → Prop := fun xs H Q => ∃ p ys, xs = [.ref p] ∧ (SqL K H p ys ∨ SqT K H p ys) ∧ ∀ l, H l = none → Q (.ref l) (upd H l (.lst ys))
section
variable {X : Cx} {K : PySem.W.Frag}
theorem cl_len (h : X.K = K := by rfl) : CallR X (.builtin "len") (rLen K) := by subst h; exact call_len_seq
theorem cl_tuple (h : X.K = K := by rfl) : CallR X (.type "tuple") (rTupOf K) := by subst h; exact call_tuple_of
theorem cl_list (h : X.K = K := by rfl) : CallR X (.type "list") (rLstOf K) := by subst h; exact call_list_of
theorem cl_sorted (h : X.K = K := by rfl) : CallR X (.builtin "sorted") (rSorted K) := by subst h; exact cr_sorted
theorem ix_listK (h : X.K = K := by rfl) : IxR X (rIxL K) := by subst h; exact ix_list
theorem ix_tupK (h : X.K = K := by rfl) : IxR X (rIxT K) := by subst h; exact ix_tup
theorem op_inK (h : X.K = K := by rfl) : OpR X (compareOp .In) (rIn K false) := by subst h; exact op_in_seq
theorem op_niK (h : X.K = K := by rfl) : OpR X (compareOp .NotIn) (rIn K true) := by subst h; exact op_notIn_seq
end
theorem hu9 {A : Around} {k : Nat} (hr : Room k A) : A.units + 9 < cLine := by have := hr.un; omega
/-- what the top has written -/
structure Txt (K : PySem.W.Frag) (mg : Str → Option Value) (a : Ads) : Prop where
  kP : Kl K a.P nP
  kV : Kl K a.V nV
  kA : Kl K a.A nA
  kS : Kl K a.S nS
  kE : Kl K a.E nE
  kC : Kl K a.C nC
  ref : RefC K a.R
  gR : mg "Refused" = some (.ref a.R)
  vE : PySem.W.findCls K (.type "Exception") (.type "type") "__init__" = some (.val (.builtin "Exception.__init__"))
  xf : XfC K a.R
  noc : PySem.W.findIn K (.ref a.R) "code" = some none
  te : PySem.W.exmOne K (.ref a.R) (.ref a.R) = some true
  g_SUIT_LENGTH : GI mg "SUIT_LENGTH" 13
  g_NO_TRUMP : GI mg "NO_TRUMP" 4
  g_MOST_IN_HAND : GI mg "MOST_IN_HAND" 4
  g_MOST_IN_ROW : GI mg "MOST_IN_ROW" 16
  g_MOST_FOR_TABLE : GI mg "MOST_FOR_TABLE" 12
  g_LAST_CARD : GI mg "LAST_CARD" 51
  g_SEATS : GT K mg "SEATS" [.int 0, .int 1, .int 2, .int 3]
  g_NUMBER_COUNTS : GT K mg "NUMBER_COUNTS" [.int 2, .int 1, .int 0, .int 0, .int 0, .int 0, .int 0, .int 0, .int 0, .int 0, .int 1, .int 0, .int 2, .int 0]
  g_ROW_COUNTS : GT K mg "ROW_COUNTS" [.int 4, .int 0, .int 0, .int 0, .int 0, .int 0, .int 0, .int 1, .int 0, .int 0, .int 0, .int 0, .int 0, .int 0]
  m_len : mg "len" = none
  m_tuple : mg "tuple" = none
  m_list : mg "list" = none
  m_sum : mg "sum" = none
  m_max : mg "max" = none
  m_min : mg "min" = none
  m_sorted : mg "sorted" = none
  m_set : mg "set" = none
  m_range : mg "range" = none
  m_Exception : mg "Exception" = none

/-! ### a def as it stands behind the top, and its promise by its body -/
structure Dn (K : PySem.W.Frag) (mg : Str → Option Value) (x : Str) (st : Stmt) : Prop where
  ex : ∃ (f : Addr) (fd : FuncData), Fun K x x st f fd ∧ mg x = some (.ref f)
structure DnM (K : PySem.W.Frag) (C : Addr) (m qual : Str) (st : Stmt) : Prop where
  ex : ∃ (f : Addr) (fd : FuncData), Cls K C ∧ Meth K C m f ∧ Fun K m qual st f fd
structure DnK (K : PySem.W.Frag) (mg : Str → Option Value) (x : Str) (C : Addr) (qual : Str) (st : Stmt) : Prop where
  ex : ∃ (f : Addr) (fd : FuncData), Mk K C f ∧ mg x = some (.ref C) ∧ Fun K "__init__" qual st f fd
section
variable {P : Program} {w : World} {K : PySem.W.Frag} {mg : Str → Option Value} {base : Heap}
theorem Dn.ok {x : Str} {st : Stmt} {N ps : List Str} {k : Nat} {sp : Sp} (D : Dn K mg x st) (S : FnScope N ps (defScope st))
    (bd : ∀ (kV doc pm : Value) (an : Option Addr) (cdv ct : Value) (us : List Value), us.length = ps.length → bindArgs (PySem.W.fnOf x x (defArgs st) (defBody st) (defScope st) .none kV doc pm an cdv ct) ⟨us, []⟩ = pure (ps.zip us))
    (len : ∀ vs H Q E, sp vs H Q E → vs.length = ps.length)
    (hbody : ∀ (f : Addr) (cdv : Value) (A : Around) (outer : List Env) (s : Shared) (H : Hp) (vs : List V) (Q : VK) (E : XK), Room k (A.deeper (envOfC x (defScope st) s.heap.objs.size f cdv)) → sp vs H Q E →
      ∃ t, PSs (cxOf CX0 P w K mg base N x (defScope st) f cdv A outer s H E).nox (defBody st) t ∧ t { nx := fun _ H' => Q .non H', rt := Q } (start N vs) H) : FnA P w K mg base CX0 (k + 1) x sp := by
  obtain ⟨f, fd, F, hm⟩ := D.ex
  exact ⟨f, fd, ps, F.ok S len (hbody f), hm, F.kp, F.binds bd⟩
theorem Dn.okX {x : Str} {st : Stmt} {N ps : List Str} {k : Nat} {sp : Sp} (D : Dn K mg x st) (S : FnScope N ps (defScope st))
    (bd : ∀ (kV doc pm : Value) (an : Option Addr) (cdv ct : Value) (us : List Value), us.length = ps.length → bindArgs (PySem.W.fnOf x x (defArgs st) (defBody st) (defScope st) .none kV doc pm an cdv ct) ⟨us, []⟩ = pure (ps.zip us))
    (len : ∀ vs H Q E, sp vs H Q E → vs.length = ps.length)
    (hbody : ∀ (f : Addr) (cdv : Value) (A : Around) (outer : List Env) (s : Shared) (H : Hp) (vs : List V) (Q : VK) (E : XK), Room k (A.deeper (envOfC x (defScope st) s.heap.objs.size f cdv)) → sp vs H Q E →
      ∃ t, PSs (cxOf (L2.CX P w) P w K mg base N x (defScope st) f cdv A outer s H E) (defBody st) t ∧ t { nx := fun _ H' => Q .non H', rt := Q } (start N vs) H) : FnA P w K mg base (L2.CX P w) (k + 1) x sp := by
  obtain ⟨f, fd, F, hm⟩ := D.ex
  exact ⟨f, fd, ps, F.okX S len (hbody f), hm, F.kp, F.binds bd⟩
theorem DnM.ok {C : Addr} {m qual : Str} {st : Stmt} {N ps : List Str} {k : Nat} {sp : Sp} (D : DnM K C m qual st) (S : FnScope N ps (defScope st))
    (bd : ∀ (kV doc pm : Value) (an : Option Addr) (cdv ct : Value) (us : List Value), us.length = ps.length → bindArgs (PySem.W.fnOf m qual (defArgs st) (defBody st) (defScope st) .none kV doc pm an cdv ct) ⟨us, []⟩ = pure (ps.zip us))
    (len : ∀ vs H Q E, sp vs H Q E → vs.length = ps.length)
    (hbody : ∀ (f : Addr) (cdv : Value) (A : Around) (outer : List Env) (s : Shared) (H : Hp) (vs : List V) (Q : VK) (E : XK), Room k (A.deeper (envOfC qual (defScope st) s.heap.objs.size f cdv)) → sp vs H Q E →
      ∃ t, PSs (cxOf CX0 P w K mg base N qual (defScope st) f cdv A outer s H E).nox (defBody st) t ∧ t { nx := fun _ H' => Q .non H', rt := Q } (start N vs) H) : MtA P w K mg base (k + 1) C m sp := by
  obtain ⟨f, fd, c, hm, F⟩ := D.ex
  exact ⟨f, fd, ps, c, hm, F.ok S len (hbody f), F.binds bd⟩
theorem DnK.ok {x : Str} {C : Addr} {qual : Str} {st : Stmt} {N ps : List Str} {k : Nat} {sp : Sp} (D : DnK K mg x C qual st) (S : FnScope N ps (defScope st))
    (bd : ∀ (kV doc pm : Value) (an : Option Addr) (cdv ct : Value) (us : List Value), us.length = ps.length → bindArgs (PySem.W.fnOf "__init__" qual (defArgs st) (defBody st) (defScope st) .none kV doc pm an cdv ct) ⟨us, []⟩ = pure (ps.zip us))
    (len : ∀ vs H Q E, sp vs H Q E → vs.length = ps.length)
    (hbody : ∀ (f : Addr) (cdv : Value) (A : Around) (outer : List Env) (s : Shared) (H : Hp) (vs : List V) (Q : VK) (E : XK), Room k (A.deeper (envOfC qual (defScope st) s.heap.objs.size f cdv)) → sp vs H Q E →
      ∃ t, PSs (cxOf CX0 P w K mg base N qual (defScope st) f cdv A outer s H E).nox (defBody st) t ∧ t { nx := fun _ H' => Q .non H', rt := Q } (start N vs) H) : MkA P w K mg base (k + 1) x C sp := by
  obtain ⟨f, fd, M, hm, F⟩ := D.ex
  exact ⟨f, fd, ps, M, F.ok S len (hbody f), hm, F.binds bd⟩
/-- a level never reached -/
theorem MtA.mono {C : Addr} {m : Str} {j k : Nat} {sp : Sp} (h : MtA P w K mg base j C m sp) (hk : j ≤ k) : MtA P w K mg base k C m sp := by
  obtain ⟨f, fd, ps, c, hm, F, b⟩ := h.ex
  exact ⟨f, fd, ps, c, hm, F.mono hk, b⟩
end
end Lt
/-! # LtM: the plain law of positions and values: no program in sight -/
namespace Lt
open Vbbraf

theorem setAt_eq (l : List (List Nat)) (s : Nat) (h : List Nat) : setAt l s h = l.set s h := by
  unfold setAt
  apply List.ext_getElem?
  intro i
  rw [List.getElem?_map, List.getElem?_zipIdx, List.getElem?_set]
  cases e : l[i]? with
  | none =>
    have hi : l.length ≤ i := List.getElem?_eq_none_iff.mp e
    by_cases c : s = i
    · subst c
      simp [Nat.not_lt.mpr hi]
    · simp [c]
  | some x =>
    have hi : i < l.length := (List.getElem?_eq_some_iff.mp e).1
    by_cases c : i = s
    · subst c
      simp [hi]
    · have c' : ¬ s = i := fun z => c z.symm
      simp [c, c']
theorem turn_lt (p : Pos) : turnOf p < 4 := Nat.mod_lt _ (by decide)
/-- whether a seat has played to the begun trick -/
def hasPlayed (p : Pos) (s : Nat) : Bool := decide ((s + 4 - p.leader) % 4 < p.trick.length)
structure Fine (p : Pos) : Prop where
  n4 : p.hands.length = 4
  tr : p.trump ≤ 4
  ld : p.leader ≤ 3
  tk : p.trick.length ≤ 3
  lens : ∃ n, ∀ s, s < 4 → (handOf p s).length + (if hasPlayed p s = true then 1 else 0) = n
  nd : (cardsOf p).Nodup
  lt : ∀ c ∈ cardsOf p, c < 52

theorem total_cons (a : Nat) (l : List Nat) : total (a :: l) = a + total l := by
  have key : ∀ (l : List Nat) (b : Nat), l.foldl (fun a b => a + b) b = b + l.foldl (fun a b => a + b) 0 := by
    intro l
    induction l with
    | nil => intro b; simp
    | cons x r ih => intro b; rw [List.foldl_cons, ih, List.foldl_cons, ih (0 + x)]; omega
  unfold total
  rw [List.foldl_cons, key]
  omega
theorem four {l : List (List Nat)} (h : l.length = 4) : ∃ a b c d, l = [a, b, c, d] := by
  match l, h with
  | [a, b, c, d], _ => exact ⟨a, b, c, d, rfl⟩
theorem held4 {p : Pos} {a b c d : List Nat} (h : p.hands = [a, b, c, d]) : held p = a.length + b.length + c.length + d.length := by
  unfold held
  rw [h]
  simp only [List.map_cons, List.map_nil, total_cons]
  show _ + (_ + (_ + (_ + total []))) = _
  have : total [] = 0 := rfl
  omega
theorem hand4 {p : Pos} {a b c d : List Nat} (h : p.hands = [a, b, c, d]) : handOf p 0 = a ∧ handOf p 1 = b ∧ handOf p 2 = c ∧ handOf p 3 = d := by
  unfold handOf
  rw [h]
  exact ⟨rfl, rfl, rfl, rfl⟩
/-- the four lengths, the trick's length and n -/
theorem Fine.count {p : Pos} (F : Fine p) : ∃ n, (∀ s, s < 4 → (handOf p s).length + (if hasPlayed p s = true then 1 else 0) = n) ∧ held p + p.trick.length = 4 * n ∧ (handOf p (turnOf p)).length = n ∧ (p.trick.length ≤ n ∨ n = 0 ∨ 1 ≤ n) := by
  obtain ⟨n, hn⟩ := F.lens
  obtain ⟨a, b, c, d, h⟩ := four F.n4
  obtain ⟨e0, e1, e2, e3⟩ := hand4 h
  have h0 := hn 0 (by decide)
  have h1 := hn 1 (by decide)
  have h2 := hn 2 (by decide)
  have h3 := hn 3 (by decide)
  rw [e0] at h0
  rw [e1] at h1
  rw [e2] at h2
  rw [e3] at h3
  have hh := held4 h
  have ld := F.ld
  have tk := F.tk
  refine ⟨n, hn, ?_, ?_, by omega⟩
  · rw [hh]
    unfold hasPlayed at h0 h1 h2 h3
    simp only [decide_eq_true_eq] at h0 h1 h2 h3
    generalize p.trick.length = k at *
    generalize p.leader = l at *
    have hl : l = 0 ∨ l = 1 ∨ l = 2 ∨ l = 3 := by omega
    have hk : k = 0 ∨ k = 1 ∨ k = 2 ∨ k = 3 := by omega
    rcases hl with rfl | rfl | rfl | rfl <;> rcases hk with rfl | rfl | rfl | rfl <;> simp at h0 h1 h2 h3 <;> omega
  · have z := hn (turnOf p) (turn_lt p)
    have no : hasPlayed p (turnOf p) = false := by
      unfold hasPlayed turnOf
      rw [decide_eq_false_iff_not]
      generalize p.trick.length = k at *
      generalize p.leader = l at *
      omega
    rw [no] at z
    simpa using z
theorem Fine.come {p : Pos} (F : Fine p) : toCome p = (handOf p (turnOf p)).length := by
  obtain ⟨n, _, h1, h2, _⟩ := F.count
  unfold toCome
  omega
theorem Fine.some {p : Pos} (F : Fine p) (h : 0 < held p) : handOf p (turnOf p) ≠ [] := by
  obtain ⟨n, _, h1, h2, _⟩ := F.count
  intro e
  rw [e] at h2
  have : n = 0 := by simpa using h2.symm
  omega
theorem Fine.pos {p : Pos} (F : Fine p) (h : p.trick ≠ []) : 0 < held p := by
  obtain ⟨n, _, h1, h2, _⟩ := F.count
  have := F.tk
  have : 0 < p.trick.length := List.length_pos_iff.mpr h
  omega
theorem legal_sub {p : Pos} {c : Nat} (h : c ∈ legal p) : c ∈ handOf p (turnOf p) := by
  unfold legal at h
  dsimp only at h
  split at h
  · exact h
  · split at h
    · exact h
    · exact (List.mem_filter.mp h).1
theorem legal_ne {p : Pos} (h : handOf p (turnOf p) ≠ []) : legal p ≠ [] := by
  unfold legal
  dsimp only
  split
  · exact h
  · split
    · exact h
    · rename_i z
      intro e
      apply z
      rw [e]
      rfl
theorem hand_get {p : Pos} {s : Nat} (h : s < p.hands.length) : p.hands[s]? = some (handOf p s) := by
  unfold handOf
  rw [List.getD_eq_getElem?_getD, List.getElem?_eq_getElem h]
  rfl
/-- the hands behind a card -/
def handsAfter (p : Pos) (c : Nat) : List (List Nat) := p.hands.set (turnOf p) (without c (handOf p (turnOf p)))
theorem behind_few {p : Pos} {c : Nat} (h : p.trick.length < 3) : behind p c = (⟨handsAfter p c, p.trump, p.leader, p.trick ++ [c]⟩, none) := by
  unfold behind handsAfter
  dsimp only
  rw [setAt_eq]
  rw [if_neg (by rw [List.length_append, List.length_singleton]; omega)]
theorem behind_last {p : Pos} {c : Nat} (h : p.trick.length = 3) : behind p c = (⟨handsAfter p c, p.trump, winner p (p.trick ++ [c]), []⟩, some (winner p (p.trick ++ [c]))) := by
  unfold behind handsAfter
  dsimp only
  rw [setAt_eq]
  rw [if_pos (by rw [List.length_append, List.length_singleton, h])]
theorem winner_lt (p : Pos) (t : List Nat) (h : t ≠ []) : winner p t < 4 := by
  unfold winner
  split
  · exact absurd rfl h
  · exact Nat.mod_lt _ (by decide)
theorem without_len {c : Nat} : ∀ {l : List Nat}, l.Nodup → c ∈ l → (without c l).length + 1 = l.length
  | [], _, h => by simp at h
  | x :: r, nd, h => by
    unfold without
    rw [List.nodup_cons] at nd
    rw [List.filter_cons]
    by_cases e : x = c
    · subst e
      have z : (r.filter fun d => d != x) = r := List.filter_eq_self.mpr fun a ha => by
        have : a ≠ x := fun q => nd.1 (q ▸ ha)
        simpa using this
      rw [z]
      simp
    · have hm : c ∈ r := by
        rcases List.mem_cons.mp h with q | q
        · exact absurd q.symm e
        · exact q
      have ih := without_len nd.2 hm
      unfold without at ih
      have e' : (x != c) = true := by simpa using e
      rw [e']
      simp only [if_true, List.length_cons]
      omega
theorem without_sub (c : Nat) (l : List Nat) : (without c l).Sublist l := List.filter_sublist
theorem without_perm {c : Nat} : ∀ {l : List Nat}, l.Nodup → c ∈ l → (c :: without c l).Perm l
  | [], _, h => by simp at h
  | x :: r, nd, h => by
    rw [List.nodup_cons] at nd
    unfold without
    rw [List.filter_cons]
    by_cases e : x = c
    · subst e
      have z : (r.filter fun d => d != x) = r := List.filter_eq_self.mpr fun a ha => by
        have : a ≠ x := fun q => nd.1 (q ▸ ha)
        simpa using this
      rw [z]
      simp
    · have hm : c ∈ r := by
        rcases List.mem_cons.mp h with q | q
        · exact absurd q.symm e
        · exact q
      have ih := without_perm nd.2 hm
      unfold without at ih
      have e' : (x != c) = true := by simpa using e
      rw [e']
      simp only [if_true]
      exact (List.Perm.swap x c _).trans (ih.cons x)
theorem flat4 (a b c d : List Nat) : ([a, b, c, d] : List (List Nat)).flatMap (fun h => h) = a ++ (b ++ (c ++ d)) := by
  simp [List.flatMap_cons]
/-- a hand is part of the cards -/
theorem hand_sub {p : Pos} {s : Nat} (hs : s < p.hands.length) : (handOf p s).Sublist (cardsOf p) := by
  unfold cardsOf
  refine List.Sublist.trans ?_ (List.sublist_append_left _ _)
  have key : ∀ (l : List (List Nat)) (s : Nat), s < l.length → (l.getD s []).Sublist (l.flatMap fun h => h) := by
    intro l
    induction l with
    | nil => intro s hs; simp at hs
    | cons x r ih =>
      intro s hs
      rw [List.flatMap_cons]
      cases s with
      | zero => exact List.sublist_append_left _ _
      | succ s => exact (ih s (by simpa using hs)).trans (List.sublist_append_right _ _)
  exact key p.hands s hs
theorem Fine.hand_nd {p : Pos} (F : Fine p) {s : Nat} (hs : s < 4) : (handOf p s).Nodup := F.nd.sublist (hand_sub (by rw [F.n4]; exact hs))
theorem Fine.hand_lt {p : Pos} (F : Fine p) {s c : Nat} (hs : s < 4) (h : c ∈ handOf p s) : c < 52 := F.lt c ((hand_sub (by rw [F.n4]; exact hs)).mem h)
/-- the hands' cards behind a card are a part of what they were; with the card in the trick the same -/
theorem after_perm {p : Pos} (F : Fine p) {c : Nat} (h : c ∈ handOf p (turnOf p)) : (c :: (handsAfter p c).flatMap (fun h => h)).Perm (p.hands.flatMap fun h => h) := by
  obtain ⟨x0, x1, x2, x3, e⟩ := four F.n4
  have nd := F.hand_nd (turn_lt p)
  have q := without_perm nd h
  have ht := turn_lt p
  obtain ⟨e0, e1, e2, e3⟩ := hand4 e
  unfold handsAfter
  generalize hw : without c (handOf p (turnOf p)) = w at q
  have hs : turnOf p = 0 ∨ turnOf p = 1 ∨ turnOf p = 2 ∨ turnOf p = 3 := by omega
  rcases hs with z | z | z | z <;> rw [z] at q ⊢ <;> rw [e]
  · rw [e0] at q
    show (c :: ([w, x1, x2, x3] : List (List Nat)).flatMap (fun h => h)).Perm _
    rw [flat4, flat4]
    exact q.append_right (x1 ++ (x2 ++ x3))
  · rw [e1] at q
    show (c :: ([x0, w, x2, x3] : List (List Nat)).flatMap (fun h => h)).Perm _
    rw [flat4, flat4]
    refine List.perm_middle.symm.trans ?_
    exact (q.append_right (x2 ++ x3)).append_left x0
  · rw [e2] at q
    show (c :: ([x0, x1, w, x3] : List (List Nat)).flatMap (fun h => h)).Perm _
    rw [flat4, flat4]
    have s1 : x0 ++ (x1 ++ (w ++ x3)) = (x0 ++ x1) ++ (w ++ x3) := by simp
    have s2 : x0 ++ (x1 ++ (x2 ++ x3)) = (x0 ++ x1) ++ (x2 ++ x3) := by simp
    rw [s1, s2]
    exact List.perm_middle.symm.trans ((q.append_right x3).append_left (x0 ++ x1))
  · rw [e3] at q
    show (c :: ([x0, x1, x2, w] : List (List Nat)).flatMap (fun h => h)).Perm _
    rw [flat4, flat4]
    have s1 : x0 ++ (x1 ++ (x2 ++ w)) = (x0 ++ x1 ++ x2) ++ w := by simp
    have s2 : x0 ++ (x1 ++ (x2 ++ x3)) = (x0 ++ x1 ++ x2) ++ x3 := by simp
    rw [s1, s2]
    exact List.perm_middle.symm.trans (q.append_left (x0 ++ x1 ++ x2))
theorem handsAfter_len (p : Pos) (c : Nat) : (handsAfter p c).length = p.hands.length := List.length_set
theorem handsAfter_get {p : Pos} (F : Fine p) (c s : Nat) (hs : s < 4) : (handsAfter p c).getD s [] = if s = turnOf p then without c (handOf p (turnOf p)) else handOf p s := by
  unfold handsAfter handOf
  rw [List.getD_eq_getElem?_getD, List.getElem?_set]
  have h1 : turnOf p < p.hands.length := by rw [F.n4]; exact turn_lt p
  by_cases e : turnOf p = s
  · subst e
    rw [if_pos rfl, if_pos h1, if_pos rfl]
    rfl
  · rw [if_neg e, if_neg (fun z => e z.symm), List.getD_eq_getElem?_getD]
theorem Fine.behind {p : Pos} (F : Fine p) {c : Nat} (h : c ∈ handOf p (turnOf p)) : Fine (behind p c).1 ∧ held (behind p c).1 + 1 = held p := by
  have pm := after_perm F h
  have wl := without_len (F.hand_nd (turn_lt p)) h
  obtain ⟨n, hn, hc, ht, _⟩ := F.count
  have hlt : ∀ x ∈ (handsAfter p c).flatMap (fun h => h), x < 52 := fun x hx => F.lt x (by
    unfold cardsOf
    exact List.mem_append_left _ (pm.mem_iff.mp (List.mem_cons_of_mem _ hx)))
  have c52 : c < 52 := F.hand_lt (turn_lt p) h
  have nd := F.nd
  unfold cardsOf at nd
  have heldEq : ∀ q : Pos, q.hands = handsAfter p c → held q + 1 = held p := by
    intro q hq
    have key : ∀ l : List (List Nat), total (l.map fun h => h.length) = (l.flatMap fun h => h).length := by
      intro l
      induction l with
      | nil => rfl
      | cons x r ih => rw [List.map_cons, total_cons, List.flatMap_cons, List.length_append, ih]
    unfold held
    rw [key, key, hq]
    have := pm.length_eq
    simpa using this
  by_cases k3 : p.trick.length = 3
  · rw [behind_last k3]
    refine ⟨⟨by rw [handsAfter_len]; exact F.n4, F.tr, Nat.le_of_lt_succ (winner_lt _ _ (by simp)), by simp, ⟨n - 1, fun s hs => ?_⟩, ?_, ?_⟩, heldEq _ rfl⟩
    · have z := hn s hs
      have no : hasPlayed ⟨handsAfter p c, p.trump, winner p (p.trick ++ [c]), []⟩ s = false := by
        unfold hasPlayed
        simp
      rw [no]
      have e := handsAfter_get F c s hs
      show ((handsAfter p c).getD s []).length + _ = _
      rw [e]
      by_cases es : s = turnOf p
      · rw [if_pos es]
        simp
        omega
      · rw [if_neg es]
        have yes : hasPlayed p s = true := by
          unfold hasPlayed
          unfold turnOf at es
          have := F.ld
          rw [decide_eq_true_eq]
          omega
        rw [yes] at z
        simp at z ⊢
        omega
    · show ((handsAfter p c).flatMap (fun h => h) ++ []).Nodup
      rw [List.append_nil]
      have z := (List.nodup_append.mp nd).1
      exact (List.nodup_cons.mp (pm.symm.nodup z)).2
    · intro x hx
      exact hlt x (by simpa [cardsOf] using hx)
  · have k : p.trick.length < 3 := by have := F.tk; omega
    rw [behind_few k]
    refine ⟨⟨by rw [handsAfter_len]; exact F.n4, F.tr, F.ld, by show (p.trick ++ [c]).length ≤ 3; rw [List.length_append, List.length_singleton]; omega, ⟨n, fun s hs => ?_⟩, ?_, ?_⟩, heldEq _ rfl⟩
    · have z := hn s hs
      have e := handsAfter_get F c s hs
      show ((handsAfter p c).getD s []).length + _ = _
      rw [e]
      have ldl := F.ld
      have hp : hasPlayed ⟨handsAfter p c, p.trump, p.leader, p.trick ++ [c]⟩ s = (hasPlayed p s || decide (s = turnOf p)) := by
        unfold hasPlayed turnOf
        rw [List.length_append, List.length_singleton]
        rw [Bool.eq_iff_iff]
        simp only [Bool.or_eq_true, decide_eq_true_eq]
        generalize p.trick.length = m at *
        generalize p.leader = l at *
        omega
      rw [hp]
      by_cases es : s = turnOf p
      · rw [if_pos es]
        have no : hasPlayed p s = false := by
          unfold hasPlayed
          rw [es]
          unfold turnOf
          rw [decide_eq_false_iff_not]
          generalize p.trick.length = m at *
          generalize p.leader = l at *
          omega
        rw [no]
        simp [es]
        omega
      · rw [if_neg es]
        simp [es]
        exact z
    · show ((handsAfter p c).flatMap (fun h => h) ++ (p.trick ++ [c])).Nodup
      have z : ((c :: (handsAfter p c).flatMap (fun h => h)) ++ p.trick).Nodup := (pm.append_right p.trick).symm.nodup nd
      refine List.Perm.nodup ?_ z
      rw [← List.append_assoc]
      rw [List.cons_append]
      exact (List.perm_append_singleton c _).symm
    · intro x hx
      have hx : x ∈ (handsAfter p c).flatMap (fun h => h) ++ (p.trick ++ [c]) := hx
      rcases List.mem_append.mp hx with z | z
      · exact hlt x z
      · rcases List.mem_append.mp z with z | z
        · exact F.lt x (List.mem_append_right _ z)
        · have : x = c := by simpa using z
          rw [this]; exact c52
end Lt
/-! # LtN: values, gifts, lines, states: the plain law -/
namespace Lt
open Vbbraf

theorem most_congr {f g : Nat → Nat} {t : Nat} : ∀ {l : List Nat}, (∀ c ∈ l, f c = g c) → most f t l = most g t l
  | [], _ => rfl
  | c :: r, h => by
    unfold most
    rw [h c List.mem_cons_self, most_congr fun x hx => h x (List.mem_cons_of_mem _ hx)]
theorem least_congr {f g : Nat → Nat} : ∀ {l : List Nat}, (∀ c ∈ l, f c = g c) → least f l = least g l
  | [], _ => rfl
  | [c], h => h c List.mem_cons_self
  | c :: d :: r, h => by
    unfold least
    rw [h c List.mem_cons_self, least_congr fun x hx => h x (List.mem_cons_of_mem _ hx)]
theorem most_top {f : Nat → Nat} {t : Nat} : ∀ {l : List Nat}, (∀ c ∈ l, f c ≤ t) → most f t l ≤ t
  | [], _ => Nat.zero_le _
  | c :: r, h => by
    unfold most
    dsimp only
    have h1 := h c List.mem_cons_self
    have h2 := most_top (f := f) (t := t) (l := r) fun x hx => h x (List.mem_cons_of_mem _ hx)
    split <;> omega
theorem most_ge {f : Nat → Nat} {t : Nat} : ∀ {l : List Nat}, (∀ c ∈ l, f c ≤ t) → ∀ c ∈ l, f c ≤ most f t l
  | [], _, c, hc => by simp at hc
  | a :: r, h, c, hc => by
    unfold most
    dsimp only
    have h1 := h a List.mem_cons_self
    have hc' := h c hc
    split
    · omega
    · rcases List.mem_cons.mp hc with e | m
      · rw [e]; omega
      · have := most_ge (f := f) (t := t) (l := r) (fun x hx => h x (List.mem_cons_of_mem _ hx)) c m
        omega
theorem most_mem {f : Nat → Nat} {t : Nat} : ∀ {l : List Nat}, l ≠ [] → ∃ c ∈ l, most f t l = f c
  | [], h => absurd rfl h
  | [a], _ => ⟨a, List.mem_cons_self, by
      unfold most
      dsimp only
      unfold most
      split <;> omega⟩
  | a :: b :: r, _ => by
    obtain ⟨c, hc, e⟩ := most_mem (f := f) (t := t) (l := b :: r) (by simp)
    unfold most
    dsimp only
    split
    · exact ⟨a, List.mem_cons_self, rfl⟩
    · rw [e]
      by_cases z : f a ≤ f c
      · exact ⟨c, List.mem_cons_of_mem _ hc, by omega⟩
      · exact ⟨a, List.mem_cons_self, by omega⟩
theorem least_le {f : Nat → Nat} : ∀ {l : List Nat}, ∀ c ∈ l, least f l ≤ f c
  | [], c, hc => by simp at hc
  | [a], c, hc => by
    have : c = a := by simpa using hc
    subst this
    exact Nat.le_refl _
  | a :: b :: r, c, hc => by
    unfold least
    dsimp only
    split
    · omega
    · rcases List.mem_cons.mp hc with e | m
      · rw [e]; omega
      · have := least_le (f := f) (l := b :: r) c m
        omega
theorem least_mem {f : Nat → Nat} : ∀ {l : List Nat}, l ≠ [] → ∃ c ∈ l, least f l = f c
  | [], h => absurd rfl h
  | [a], _ => ⟨a, List.mem_cons_self, rfl⟩
  | a :: b :: r, _ => by
    obtain ⟨c, hc, e⟩ := least_mem (f := f) (l := b :: r) (by simp)
    unfold least
    dsimp only
    split
    · rename_i z
      exact ⟨a, List.mem_cons_self, z.symm⟩
    · rw [e]
      by_cases z : f a ≤ f c
      · exact ⟨a, List.mem_cons_self, by omega⟩
      · exact ⟨c, List.mem_cons_of_mem _ hc, by omega⟩
theorem value_zero {p : Pos} (h : held p = 0) : value p = 0 := by
  unfold value
  rw [h]
  rfl
theorem value_step {p : Pos} (F : Fine p) (h : 0 < held p) : value p = if turnOf p % 2 = 0 then most (valueBy p) (toCome p) (legal p) else least (valueBy p) (legal p) := by
  obtain ⟨n, hn⟩ : ∃ n, held p = n + 1 := ⟨held p - 1, by omega⟩
  have eq : ∀ c ∈ legal p, (fun (c : Nat) => let x := behind p c; gained x.2 + valueIn n x.1) c = valueBy p c := fun c hc => by
    have z := (F.behind (legal_sub hc)).2
    unfold valueBy value
    dsimp only
    have e : held (behind p c).1 = n := by omega
    rw [e]
  unfold value
  rw [hn]
  unfold valueIn
  dsimp only
  split
  · exact most_congr eq
  · exact least_congr eq
theorem behind_come {p : Pos} (F : Fine p) {c : Nat} (h : c ∈ handOf p (turnOf p)) : gained (behind p c).2 + toCome (behind p c).1 ≤ toCome p := by
  obtain ⟨F', hh⟩ := F.behind h
  obtain ⟨n, _, h1, h2, _⟩ := F.count
  unfold toCome
  by_cases k3 : p.trick.length = 3
  · rw [behind_last k3] at hh ⊢
    have g : gained (some (winner p (p.trick ++ [c]))) ≤ 1 := by
      unfold gained
      dsimp only
      split <;> omega
    have hh' : held ⟨handsAfter p c, p.trump, winner p (p.trick ++ [c]), []⟩ + 1 = held p := hh
    show gained (some (winner p (p.trick ++ [c]))) + (held ⟨handsAfter p c, p.trump, winner p (p.trick ++ [c]), []⟩ + 0) / 4 ≤ (held p + p.trick.length) / 4
    omega
  · have k : p.trick.length < 3 := by have := F.tk; omega
    rw [behind_few k] at hh ⊢
    have g : gained none = 0 := rfl
    have l : (p.trick ++ [c]).length = p.trick.length + 1 := by simp
    dsimp only at hh ⊢
    rw [l]
    omega
theorem value_le : ∀ (n : Nat) (p : Pos), held p = n → Fine p → value p ≤ toCome p
  | 0, p, h, F => by rw [value_zero h]; exact Nat.zero_le _
  | n + 1, p, h, F => by
    have by_le : ∀ c ∈ legal p, valueBy p c ≤ toCome p := fun c hc => by
      obtain ⟨F', hh⟩ := F.behind (legal_sub hc)
      have ih := value_le n (behind p c).1 (by omega) F'
      have := behind_come F (legal_sub hc)
      unfold valueBy
      dsimp only
      omega
    have ne : legal p ≠ [] := legal_ne (F.some (by omega))
    rw [value_step F (by omega)]
    split
    · exact most_top by_le
    · obtain ⟨c, hc, e⟩ := least_mem (f := valueBy p) ne
      rw [e]
      exact by_le c hc
theorem by_le {p : Pos} (F : Fine p) {c : Nat} (hc : c ∈ legal p) : valueBy p c ≤ toCome p := by
  obtain ⟨F', hh⟩ := F.behind (legal_sub hc)
  have ih := value_le _ (behind p c).1 rfl F'
  have := behind_come F (legal_sub hc)
  unfold valueBy
  dsimp only
  omega
theorem held_of_legal {p : Pos} (F : Fine p) {c : Nat} (hc : c ∈ legal p) : 0 < held p := by
  have := (F.behind (legal_sub hc)).2
  omega
/-- the value is one of those by the cards, and the best of them for the side on turn -/
theorem value_max {p : Pos} (F : Fine p) (h : 0 < held p) (t : turnOf p % 2 = 0) : (∃ c ∈ legal p, valueBy p c = value p) ∧ ∀ c ∈ legal p, valueBy p c ≤ value p := by
  have e := value_step F h
  rw [if_pos t] at e
  obtain ⟨c, hc, e2⟩ := most_mem (f := valueBy p) (t := toCome p) (legal_ne (F.some h))
  exact ⟨⟨c, hc, by rw [e, e2]⟩, fun c hc => by rw [e]; exact most_ge (fun x hx => by_le F hx) c hc⟩
theorem value_min {p : Pos} (F : Fine p) (h : 0 < held p) (t : ¬ turnOf p % 2 = 0) : (∃ c ∈ legal p, valueBy p c = value p) ∧ ∀ c ∈ legal p, value p ≤ valueBy p c := by
  have e := value_step F h
  rw [if_neg t] at e
  obtain ⟨c, hc, e2⟩ := least_mem (f := valueBy p) (legal_ne (F.some h))
  exact ⟨⟨c, hc, by rw [e, e2]⟩, fun c hc => by rw [e]; exact least_le c hc⟩
/-- a gift, as the program reckons it -/
theorem gift_eq {p : Pos} (F : Fine p) {c : Nat} (hc : c ∈ legal p) : ((gift p c : Nat) : Int) = if turnOf p % 2 = 0 then (value p : Int) - (valueBy p c : Int) else -((value p : Int) - (valueBy p c : Int)) := by
  have h := held_of_legal F hc
  unfold gift
  by_cases t : turnOf p % 2 = 0
  · have := (value_max F h t).2 c hc
    rw [if_pos t, if_pos t]
    omega
  · have := (value_min F h t).2 c hc
    rw [if_neg t, if_neg t]
    omega
theorem gift_zero {p : Pos} (F : Fine p) {c : Nat} (hc : c ∈ legal p) : decide (((gift p c : Nat) : Int) = 0) = keeps p c := by
  have h := held_of_legal F hc
  unfold keeps
  rw [Bool.eq_iff_iff, decide_eq_true_eq, beq_iff_eq, gift_eq F hc]
  split <;> omega
theorem keeper {p : Pos} (F : Fine p) (h : 0 < held p) : ∃ c, (legal p).find? (keeps p) = some c := by
  have ex : ∃ c ∈ legal p, valueBy p c = value p := by
    by_cases t : turnOf p % 2 = 0
    · exact (value_max F h t).1
    · exact (value_min F h t).1
  obtain ⟨c, hc, e⟩ := ex
  have : ((legal p).find? (keeps p)).isSome = true := by
    rw [List.find?_isSome]
    exact ⟨c, hc, by unfold keeps; rw [e]; exact beq_self_eq_true _⟩
  exact Option.isSome_iff_exists.mp this
theorem line_step {p : Pos} (F : Fine p) (h : 0 < held p) {c : Nat} (e : (legal p).find? (keeps p) = some c) : c ∈ legal p ∧ line p = c :: line (behind p c).1 := by
  have hc := List.mem_of_find?_eq_some e
  refine ⟨hc, ?_⟩
  have z := (F.behind (legal_sub hc)).2
  obtain ⟨n, hn⟩ : ∃ n, held p = n + 1 := ⟨held p - 1, by omega⟩
  unfold line
  rw [hn]
  have e2 : held (behind p c).1 = n := by omega
  rw [e2]
  show (match (legal p).find? (keeps p) with
    | none => []
    | some c => c :: lineIn n (behind p c).1) = _
  rw [e]
theorem line_end {p : Pos} (h : held p = 0) : line p = [] := by
  unfold line
  rw [h]
  rfl
theorem line_len : ∀ (n : Nat) (p : Pos), (lineIn n p).length ≤ n
  | 0, _ => Nat.le_refl _
  | n + 1, p => by
    show (match (legal p).find? (keeps p) with
      | none => []
      | some c => c :: lineIn n (behind p c).1).length ≤ _
    split
    · exact Nat.zero_le _
    · rw [List.length_cons]
      exact Nat.succ_le_succ (line_len n _)

/-! ### inside the hands as they were dealt -/
def Subs : List (List Nat) → List (List Nat) → Prop
  | [], [] => True
  | h :: hs, d :: ds => h.Sublist d ∧ Subs hs ds
  | _, _ => False
theorem Subs.refl : ∀ l : List (List Nat), Subs l l
  | [] => trivial
  | h :: r => ⟨List.Sublist.refl h, Subs.refl r⟩
theorem Subs.set : ∀ {hs ds : List (List Nat)} {i : Nat} {x : List Nat}, Subs hs ds → x.Sublist (hs.getD i []) → Subs (hs.set i x) ds
  | [], [], _, _, _, _ => trivial
  | h :: hs, d :: ds, 0, x, q, s => ⟨List.Sublist.trans s q.1, q.2⟩
  | h :: hs, d :: ds, i + 1, x, q, s => ⟨q.1, Subs.set (i := i) q.2 s⟩
  | [], _ :: _, _, _, q, _ => q.elim
  | _ :: _, [], _, _, q, _ => q.elim
structure Inside (D : List (List Nat)) (p : Pos) : Prop where
  subs : Subs p.hands D
  tr : p.trump ≤ 4
  ld : p.leader ≤ 3
theorem Inside.behind {D : List (List Nat)} {p : Pos} (F : Fine p) (I : Inside D p) (c : Nat) : Inside D (behind p c).1 := by
  have s : Subs (handsAfter p c) D := I.subs.set (without_sub c _)
  by_cases k3 : p.trick.length = 3
  · rw [behind_last k3]
    exact ⟨s, I.tr, Nat.le_of_lt_succ (winner_lt _ _ (by simp))⟩
  · have k : p.trick.length < 3 := by have := F.tk; omega
    rw [behind_few k]
    exact ⟨s, I.tr, I.ld⟩

/-! ### states -/
inductive Line (p0 : Pos) : List Nat → State → Prop
  | nil : Line p0 [] (dealt p0)
  | snoc {l : List Nat} {s : State} {c : Nat} : Line p0 l s → c ∈ legal s.now → Line p0 (l ++ [c]) (playedBy s c)
theorem account_snoc : ∀ (l : List Nat) (p q : Pos) (es : List Entry) (c : Nat), account p l = some (es, q) → c ∈ legal q →
    account p (l ++ [c]) = some (es ++ [⟨turnOf q, gift q c, gained (behind q c).2⟩], (behind q c).1)
  | [], p, q, es, c, h, hc => by
    have h' : some (([] : List Entry), p) = some (es, q) := h
    cases h'
    show (if (legal p).contains c = false then none else _) = _
    rw [if_neg (by simpa using hc)]
    rfl
  | a :: r, p, q, es, c, h, hc => by
    have h' : (if (legal p).contains a = false then none else (match account (behind p a).1 r with
      | none => none
      | some (l, q) => some (⟨turnOf p, gift p a, gained (behind p a).2⟩ :: l, q))) = some (es, q) := h
    show (if (legal p).contains a = false then none else (match account (behind p a).1 (r ++ [c]) with
      | none => none
      | some (l, q) => some (⟨turnOf p, gift p a, gained (behind p a).2⟩ :: l, q))) = _
    split at h'
    · cases h'
    · rename_i z
      rw [if_neg z]
      cases e : account (behind p a).1 r with
      | none => rw [e] at h'; cases h'
      | some x =>
        obtain ⟨es', q'⟩ := x
        rw [e] at h'
        cases h'
        rw [account_snoc r _ _ _ c e hc]
        rfl
theorem held_sub : ∀ {hs ds : List (List Nat)}, Subs hs ds → total (hs.map fun h => h.length) ≤ total (ds.map fun h => h.length)
  | [], [], _ => Nat.le_refl _
  | h :: hs, d :: ds, q => by
    rw [List.map_cons, List.map_cons, total_cons, total_cons]
    have := held_sub q.2
    have := q.1.length_le
    omega
  | [], _ :: _, q => q.elim
  | _ :: _, [], q => q.elim
structure LineIs (p0 : Pos) (l : List Nat) (s : State) : Prop where
  is : s = l.foldl playedBy (dealt p0)
  first : s.first = p0
  played : s.played = l
  fine : Fine s.now
  ins : Inside p0.hands s.now
  acc : ∃ es, account p0 l = some (es, s.now)
  len : l.length + held s.now = held p0
theorem Line.all {p0 : Pos} (F : Fine p0) : ∀ {l : List Nat} {s : State}, Line p0 l s → LineIs p0 l s := by
  intro l s h
  induction h with
  | nil => exact ⟨rfl, rfl, rfl, F, ⟨Subs.refl _, F.tr, F.ld⟩, ⟨[], rfl⟩, by simp [dealt]⟩
  | @snoc l s c hl hc ih =>
    obtain ⟨F', hh⟩ := ih.fine.behind (legal_sub hc)
    obtain ⟨es, ha⟩ := ih.acc
    refine ⟨?_, ih.first, ?_, F', ih.ins.behind ih.fine c, ⟨_, account_snoc l p0 s.now es c ha hc⟩, ?_⟩
    · rw [List.foldl_append, ← ih.is]
      rfl
    · show s.played ++ [c] = l ++ [c]
      rw [ih.played]
    · have e := ih.len
      rw [List.length_append, List.length_singleton]
      show l.length + 1 + held (behind s.now c).1 = held p0
      omega
theorem Line.back {p0 : Pos} : ∀ {l : List Nat} {s : State}, Line p0 l s → l ≠ [] → ∃ l' c s', l = l' ++ [c] ∧ Line p0 l' s' ∧ c ∈ legal s'.now ∧ s = playedBy s' c
  | _, _, .nil, h => absurd rfl h
  | _, _, .snoc q hc, _ => ⟨_, _, _, rfl, q, hc, rfl⟩
theorem Line.take {p0 : Pos} (F : Fine p0) : ∀ {l : List Nat} {s : State}, Line p0 l s → ∀ i, i ≤ l.length → ∃ s', Line p0 (l.take i) s' := by
  intro l s h
  induction h with
  | nil => intro i hi; exact ⟨_, by simpa using Line.nil⟩
  | @snoc l s c hl hc ih =>
    intro i hi
    by_cases e : i ≤ l.length
    · obtain ⟨s', q⟩ := ih i e
      refine ⟨s', ?_⟩
      rw [List.take_append_of_le_length e]
      exact q
    · refine ⟨playedBy s c, ?_⟩
      rw [List.take_of_length_le (by simp at hi ⊢; omega)]
      exact .snoc hl hc
/-- what is always so of the state -/
structure Good (s : State) : Prop where
  fine : Fine s.first
  notrick : s.first.trick = []
  small : ∀ h ∈ s.first.hands, h.length ≤ 4
  line : Line s.first s.played s
theorem Good.is {s : State} (G : Good s) : LineIs s.first s.played s := G.line.all G.fine
theorem Good.now {s : State} (G : Good s) : Fine s.now := G.is.fine
theorem held_first {p : Pos} (F : Fine p) (sm : ∀ h ∈ p.hands, h.length ≤ 4) : held p ≤ 16 := by
  obtain ⟨a, b, c, d, e⟩ := four F.n4
  rw [held4 e]
  rw [e] at sm
  have h1 := sm a (by simp)
  have h2 := sm b (by simp)
  have h3 := sm c (by simp)
  have h4 := sm d (by simp)
  omega
theorem Good.held {s : State} (G : Good s) : s.played.length + held s.now ≤ 16 := by
  have := G.is.len
  have := held_first G.fine G.small
  omega
theorem good_start : Good start := by
  refine ⟨⟨rfl, by decide, by decide, by decide, ⟨0, fun s hs => ?_⟩, by decide, by decide⟩, rfl, by decide, .nil⟩
  have hh : s = 0 ∨ s = 1 ∨ s = 2 ∨ s = 3 := by omega
  rcases hh with rfl | rfl | rfl | rfl <;> decide
theorem Good.play {s : State} (G : Good s) {c : Nat} (hc : c ∈ legal s.now) : Good (playedBy s c) :=
  ⟨G.fine, G.notrick, G.small, .snoc G.line hc⟩
theorem Good.undo {s : State} (G : Good s) (h : s.played ≠ []) : ∃ s' c, Good s' ∧ c ∈ legal s'.now ∧ s = playedBy s' c ∧ s.played = s'.played ++ [c] ∧ s'.first = s.first ∧ s.played.dropLast.foldl playedBy (dealt s.first) = s' := by
  obtain ⟨l', c, s', e, q, hc, es⟩ := G.line.back h
  have L := q.all G.fine
  refine ⟨s', c, ⟨by rw [L.first]; exact G.fine, by rw [L.first]; exact G.notrick, by rw [L.first]; exact G.small, by rw [L.first, L.played]; exact q⟩, hc, es, by rw [e, L.played], L.first, ?_⟩
  rw [e, List.dropLast_concat, ← L.is]
end Lt
/-! # LtP: positions.py -/
namespace Lt
open PySem PySem.Spec PyProof.Rows L2
open Vbbraf (handOf turnOf held toCome legal suitOf over winsAt winner without behind gained)

/-- all that is no .ext is kept -/
def NoExt : HO → Prop
  | .ext _ => False
  | _ => True
def Kp (H H' : Hp) : Prop := ∀ b o, H b = some o → NoExt o → H' b = some o
theorem Kp.refl (H : Hp) : Kp H H := fun _ _ h _ => h
theorem Kp.trans {H H1 H2 : Hp} (a : Kp H H1) (b : Kp H1 H2) : Kp H H2 := fun c o h n => b c o (a c o h n) n
theorem Kp.of {H H' : Hp} (s : Same H H') : Kp H H' := fun b o h _ => s b o h
theorem Kp.tup {H H' : Hp} (k : Kp H H') : ∀ a xs, H a = some (.tup xs) → H' a = some (.tup xs) := fun a xs h => k a _ h trivial
theorem Kp.sqT {K : PySem.W.Frag} {H H' : Hp} (k : Kp H H') {b : Addr} {xs : List V} (h : SqT K H b xs) : SqT K H' b xs := by
  rcases h with (h | ⟨o, h⟩) | h
  · exact .inl (.inl (k _ _ h trivial))
  · exact .inl (.inr ⟨o, k _ _ h trivial⟩)
  · exact .inr h
theorem Kp.sqL {K : PySem.W.Frag} {H H' : Hp} (k : Kp H H') {b : Addr} {xs : List V} (h : SqL K H b xs) : SqL K H' b xs := by
  rcases h with (h | ⟨o, h⟩) | h
  · exact .inl (.inl (k _ _ h trivial))
  · exact .inl (.inr ⟨o, k _ _ h trivial⟩)
  · exact .inr h
theorem same_new {H : Hp} {p : Addr} (h : H p = none) (o : HO) : Same H (upd H p o) := fun b u q => by rw [upd_ne (ne_of_none q h)]; exact q
theorem same_upd {H H' : Hp} {p : Addr} (h : H p = none) (s : Same H H') (o : HO) : Same H (upd H' p o) := fun b u q => by rw [upd_ne (ne_of_none q h)]; exact s b u q
theorem same_free {H H' : Hp} (s : Same H H') {l : Addr} (h : H' l = none) : H l = none := s.free h
theorem sqT_same {K : PySem.W.Frag} {H H' : Hp} (s : Same H H') {b : Addr} {xs : List V} (h : SqT K H b xs) : SqT K H' b xs := (Kp.of s).sqT h
def PosAt (c : Addr) (H : Hp) (x : Addr) (p : Vbbraf.Pos) : Prop := ∃ dx hs tk, H x = some (.ins c dx (nP.zip [.ref hs, .int (p.trump : Nat), .int (p.leader : Nat), .ref tk])) ∧ HandsAt H hs p.hands ∧ H tk = some (.tup (nv p.trick))
theorem PosAt.kp {c : Addr} {H H' : Hp} {x : Addr} {p : Vbbraf.Pos} (k : Kp H H') (h : PosAt c H x p) : PosAt c H' x p :=
  let ⟨dx, hs, tk, h1, h2, h3⟩ := h
  ⟨dx, hs, tk, k _ _ h1 trivial, h2.imp k.tup, k _ _ h3 trivial⟩
theorem PosAt.same {c : Addr} {H H' : Hp} {x : Addr} {p : Vbbraf.Pos} (s : Same H H') (h : PosAt c H x p) : PosAt c H' x p := h.kp (Kp.of s)
theorem dint (i j : Int) : decide (V.int i = V.int j) = decide (i = j) := by
  rw [Bool.eq_iff_iff]
  simp
theorem if_t {c : Bool} {A B : Prop} (hc : c = true) (h : A) : if c = true then A else B := by rw [if_pos hc]; exact h
theorem if_f {c : Bool} {A B : Prop} (hc : c = false) (h : B) : if c = true then A else B := by rw [hc, if_neg Bool.false_ne_true]; exact h
theorem sz (n : Nat) (h : n ≤ 1000) : n ≤ sizeLine := Nat.le_trans h (by rw [sizeLine_eq]; decide)
theorem szl (n : Nat) (h : n ≤ 1000) : n < sizeLine := Nat.lt_of_le_of_lt h (by rw [sizeLine_eq]; decide)
theorem hand_tup {H : Hp} {b : Addr} {hs : List (List Nat)} {s : Nat} {as : List Addr} (h : H b = some (.tup (as.map V.ref))) (q : Tups H as hs) (hs' : s < hs.length) :
    ∃ a, atI (as.map V.ref) ((s : Nat) : Int) = some (.ref a) ∧ as[s]? = some a ∧ H a = some (.tup (nv (hs.getD s []))) := by
  obtain ⟨a, e, h2⟩ := q.get (List.getElem?_eq_getElem hs')
  refine ⟨a, atI_nat (by rw [List.getElem?_map, e]; rfl), e, ?_⟩
  rw [List.getD_eq_getElem?_getD, List.getElem?_eq_getElem hs']
  exact h2

section
variable {P : Program} {w : World} {K : PySem.W.Frag} {mg : Str → Option Value} {base : Heap} {a : Ads}

/-! ### Position(..) -/
theorem ok_rec4 (D : DnK K mg "Position" a.P "Position.__init__" s_Position_init) (T : Txt K mg a) : MkA P w K mg base 1 "Position" a.P (spRec a.P nP) := by
  refine D.ok sc_Position_init (fun _ _ _ _ _ _ us hl => match us, hl with | [_, _, _, _, _], _ => rfl) (fun vs H Q E h => ?_) fun f cdv A outer s H vs Q E hr h => ⟨_, (pss_cons (ps_fNew 0 T.kP (pv 0) (pv 1))
      (pss_cons (ps_fNew 1 T.kP (pv 0) (pv 2))
      (pss_cons (ps_fNew 2 T.kP (pv 0) (pv 3))
      (pss_one (ps_fNew 3 T.kP (pv 0) (pv 4)))))), ?_⟩
  · obtain ⟨x, dx, vals, rfl, hl, _⟩ := h
    rw [List.length_cons, hl]; rfl
  · obtain ⟨x, dx, vals, rfl, hl, hx, q⟩ := h
    match vals, hl with
    | [v1, v2, v3, v4], _ =>
      refine ⟨_, rfl, _, rfl, x, dx, [], rfl, hx, rfl, ?_⟩
      refine ⟨_, rfl, _, rfl, x, dx, [v1], rfl, upd_same, rfl, ?_⟩
      refine ⟨_, rfl, _, rfl, x, dx, [v1, v2], rfl, upd_same, rfl, ?_⟩
      refine ⟨_, rfl, _, rfl, x, dx, [v1, v2, v3], rfl, upd_same, rfl, ?_⟩
      rw [upd_upd, upd_upd, upd_upd]
      exact q
theorem ok_rec2 (D : DnK K mg "State" a.S "State.__init__" s_State_init) (T : Txt K mg a) : MkA P w K mg base 1 "State" a.S (spRec a.S nS) := by
  refine D.ok sc_State_init (fun _ _ _ _ _ _ us hl => match us, hl with | [_, _, _], _ => rfl) (fun vs H Q E h => ?_) fun f cdv A outer s H vs Q E hr h => ⟨_, (pss_cons (ps_fNew 0 T.kS (pv 0) (pv 1)) (pss_one (ps_fNew 1 T.kS (pv 0) (pv 2)))), ?_⟩
  · obtain ⟨x, dx, vals, rfl, hl, _⟩ := h
    rw [List.length_cons, hl]; rfl
  · obtain ⟨x, dx, vals, rfl, hl, hx, q⟩ := h
    match vals, hl with
    | [v1, v2], _ =>
      refine ⟨_, rfl, _, rfl, x, dx, [], rfl, hx, rfl, ?_⟩
      refine ⟨_, rfl, _, rfl, x, dx, [v1], rfl, upd_same, rfl, ?_⟩
      rw [upd_upd]
      exact q
theorem ok_rec3 (D : DnK K mg "Call" a.C "Call.__init__" s_Call_init) (T : Txt K mg a) : MkA P w K mg base 1 "Call" a.C (spRec a.C nC) := by
  refine D.ok sc_Call_init (fun _ _ _ _ _ _ us hl => match us, hl with | [_, _, _, _], _ => rfl) (fun vs H Q E h => ?_) fun f cdv A outer s H vs Q E hr h => ⟨_, (pss_cons (ps_fNew 0 T.kC (pv 0) (pv 1))
      (pss_cons (ps_fNew 1 T.kC (pv 0) (pv 2))
      (pss_one (ps_fNew 2 T.kC (pv 0) (pv 3))))), ?_⟩
  · obtain ⟨x, dx, vals, rfl, hl, _⟩ := h
    rw [List.length_cons, hl]; rfl
  · obtain ⟨x, dx, vals, rfl, hl, hx, q⟩ := h
    match vals, hl with
    | [v1, v2, v3], _ =>
      refine ⟨_, rfl, _, rfl, x, dx, [], rfl, hx, rfl, ?_⟩
      refine ⟨_, rfl, _, rfl, x, dx, [v1], rfl, upd_same, rfl, ?_⟩
      refine ⟨_, rfl, _, rfl, x, dx, [v1, v2], rfl, upd_same, rfl, ?_⟩
      rw [upd_upd, upd_upd]
      exact q
/-- how such a class is used: the arguments, then a new instance -/
theorem use_rec {C : Addr} {names : List Str} {vs : List V} {H : Hp} {Q : VK} (hl : vs.length = names.length) (q : ∀ x H', H x = none → Same H H' → (∃ dx, H' x = some (.ins C dx (names.zip vs))) → Q (.ref x) H') :
    ∀ x dx, H x = none → H dx = none → dx ≠ x → spRec C names (.ref x :: vs) (upd (upd H dx (.own x)) x (.ins C dx [])) (fun v H2 => v = .non ∧ Q (.ref x) H2) E0 := fun x dx hx hd ne => by
  refine ⟨x, dx, vs, rfl, hl, upd_same, rfl, ?_⟩
  rw [upd_upd]
  exact q x _ hx (same_made hx hd) ⟨dx, upd_same⟩

/-! ### the small ones -/
def sp_suit_of : Sp := fun vs H Q _ => vs.length = 1 ∧ ∃ n : Nat, vs = [.int (n : Int)] ∧ Q (.int (suitOf n : Nat)) H
theorem ok_suit_of (D : Dn K mg "suit_of" s_suit_of) (T : Txt K mg a) : FnA P w K mg base CX0 1 "suit_of" sp_suit_of := by
  refine D.ok sc_suit_of (fun _ _ _ _ _ _ us hl => match us, hl with | [_], _ => rfl) (fun _ _ _ _ h => h.1) fun f cdv A outer s H vs Q E hr h => ⟨_, (pss_one (ps_ret (pe_op op_fdiv (pv 0) (pgc T.g_SUIT_LENGTH)))), ?_⟩
  obtain ⟨_, n, rfl, q⟩ := h
  exact ⟨_, rfl, _, _, rfl, rfl, ⟨by decide, by decide⟩, q⟩
def sp_side_of : Sp := fun vs H Q _ => vs.length = 1 ∧ ∃ n : Nat, vs = [.int (n : Int)] ∧ Q (.int (n % 2 : Nat)) H
theorem ok_side_of (D : Dn K mg "side_of" s_side_of) (T : Txt K mg a) : FnA P w K mg base CX0 1 "side_of" sp_side_of := by
  refine D.ok sc_side_of (fun _ _ _ _ _ _ us hl => match us, hl with | [_], _ => rfl) (fun _ _ _ _ h => h.1) fun f cdv A outer s H vs Q E hr h => ⟨_, (pss_one (ps_ret (pe_op op_mod (pv 0) pe_int))), ?_⟩
  obtain ⟨_, n, rfl, q⟩ := h
  exact ⟨_, rfl, _, _, rfl, rfl, (by show (0 : Int) < 2; decide), q⟩
def sp_seat_on_turn (a : Ads) : Sp := fun vs H Q _ => vs.length = 1 ∧ ∃ x p, vs = [.ref x] ∧ PosAt a.P H x p ∧ Q (.int (turnOf p : Nat)) H
theorem ok_seat_on_turn (D : Dn K mg "seat_on_turn" s_seat_on_turn) (T : Txt K mg a) : FnA P w K mg base CX0 1 "seat_on_turn" (sp_seat_on_turn a) := by
  refine D.ok sc_seat_on_turn (fun _ _ _ _ _ _ us hl => match us, hl with | [_], _ => rfl) (fun _ _ _ _ h => h.1) fun f cdv A outer s H vs Q E hr h => ⟨_, (pss_one (ps_ret (pe_op op_mod (pe_op op_add (pe_f 2 T.kP (pv 0)) (pe_callB (cl_len (K := K)) (by rfl) T.m_len PySem.boot_len (pa_cons (pe_f 3 T.kP (pv 0)) pa_nil))) pe_int))), ?_⟩
  obtain ⟨_, x, p, rfl, ⟨dx, hs, tk, h1, h2, h3⟩, q⟩ := h
  refine ⟨_, rfl, x, dx, _, _, rfl, h1, rfl, _, rfl, x, dx, _, _, rfl, h1, rfl, tk, _, rfl, .inr (SqT.of h3), _, _, rfl, rfl, _, _, rfl, rfl, (by show (0 : Int) < 4; decide), ?_⟩
  rw [nv_len]
  exact q
def sp_hand_on_turn (a : Ads) : Sp := fun vs H Q _ => vs.length = 1 ∧ ∃ x p, vs = [.ref x] ∧ PosAt a.P H x p ∧ p.hands.length = 4 ∧ ∀ b, H b = some (.tup (nv (handOf p (turnOf p)))) → Q (.ref b) H
theorem ok_hand_on_turn (D : Dn K mg "hand_on_turn" s_hand_on_turn) (T : Txt K mg a) (F_seat_on_turn : FnA P w K mg base CX0 1 "seat_on_turn" (sp_seat_on_turn a)) : FnA P w K mg base CX0 2 "hand_on_turn" (sp_hand_on_turn a) := by
  refine D.ok sc_hand_on_turn (fun _ _ _ _ _ _ us hl => match us, hl with | [_], _ => rfl) (fun _ _ _ _ h => h.1) fun f cdv A outer s H vs Q E hr h => ⟨_, (pss_one (ps_ret (pe_ix (ix_tupK (K := K)) (pe_f 0 T.kP (pv 0)) (pc F_seat_on_turn hr (by decide) (pa_cons (pv 0) pa_nil)) (fun _ _ => rfl)))), ?_⟩
  obtain ⟨_, x, p, rfl, hp, h4, q⟩ := h
  obtain ⟨dx, hs, tk, h1, ⟨as, ha, h2⟩, h3⟩ := id hp
  obtain ⟨b, e1, _, e2⟩ := hand_tup ha h2 (s := turnOf p) (by rw [h4]; exact Lt.turn_lt p)
  exact ⟨_, rfl, x, dx, _, _, rfl, h1, rfl, _, rfl, rfl, x, p, rfl, hp, hs, _, _, _, rfl, rfl, SqT.of ha, e1, q b e2⟩
def sp_playable (a : Ads) : Sp := fun vs H Q _ => vs.length = 1 ∧ ∃ x p, vs = [.ref x] ∧ PosAt a.P H x p ∧ p.hands.length = 4 ∧ (handOf p (turnOf p)).length ≤ 100 ∧ ∀ b H', Same H H' → H' b = some (.tup (nv (legal p))) → Q (.ref b) H'
theorem filter_take {α : Type} {l : List α} {p : α → Bool} {i : Nat} {x : α} (h : l[i]? = some x) : (l.take (i + 1)).filter p = (l.take i).filter p ++ (if p x = true then [x] else []) := by
  have : l.take (i + 1) = l.take i ++ [x] := by
    obtain ⟨hl, e⟩ := List.getElem?_eq_some_iff.mp h
    rw [List.take_succ_eq_append_getElem hl, e]
  rw [this, List.filter_append]
  congr 1
  by_cases c : p x = true <;> simp [c]
theorem ok_playable (D : Dn K mg "playable" s_playable) (T : Txt K mg a) (F_hand_on_turn : FnA P w K mg base CX0 2 "hand_on_turn" (sp_hand_on_turn a)) (F_suit_of : FnA P w K mg base CX0 1 "suit_of" sp_suit_of) : FnA P w K mg base CX0 3 "playable" (sp_playable a) := by
  refine D.ok sc_playable (fun _ _ _ _ _ _ us hl => match us, hl with | [_], _ => rfl) (fun _ _ _ _ h => h.1) fun f cdv A outer s H vs Q E hr h => ⟨_, (pss_cons (ps_set (i := 1) sc_playable.nd rfl (Or.inl rfl) (pc F_hand_on_turn hr (by decide) (pa_cons (pv 0) pa_nil)))
      (pss_cons (ps_if (pt_cmpR op_eq (pe_callB (cl_len (K := K)) (by rfl) T.m_len PySem.boot_len (pa_cons (pe_f 3 T.kP (pv 0)) pa_nil)) pe_int (nomark _)) (pss_one (ps_ret (pv 1))) pss_nil)
      (pss_cons (ps_set (i := 2) sc_playable.nd rfl (Or.inr rfl) (pc F_suit_of hr (by decide) (pa_cons (pe_ix (ix_tupK (K := K)) (pe_f 3 T.kP (pv 0)) pe_int (fun _ _ => rfl)) pa_nil)))
      (pss_cons (ps_set (i := 3) sc_playable.nd rfl (Or.inl rfl) (pe_callTy (cl_tuple (K := K)) (by rfl) T.m_tuple (by decide +kernel) (pa_cons (pe_lc (own := [("card", 4)]) (g := gName 4) rfl sc_playable.nd (pi_tup (pv 1)) (blkOk_by (own := [("card", 4)]) (N := N_playable) (sc := defScope s_playable) (by decide +kernel)) (fun _ _ _ _ _ => pg_name (i := 4) sc_playable.nd rfl (Or.inl rfl)) (fun _ _ _ _ _ => (pts_one (pt_cmpR op_eq (pc F_suit_of hr (by decide) (pa_cons (pv 4) pa_nil)) (pv 2) (nomark _)))) (fun _ _ _ _ _ => (pv 4))) pa_nil)))
      (pss_cons (ps_if (pt_cmpR op_gt (pe_callB (cl_len (K := K)) (by rfl) T.m_len PySem.boot_len (pa_cons (pv 3) pa_nil)) pe_int (nomark _)) (pss_one (ps_ret (pv 3))) pss_nil)
      (pss_one (ps_ret (pv 1)))))))), ?_⟩
  obtain ⟨_, x, p, rfl, hp, h4, hz, q⟩ := h
  refine ⟨_, rfl, rfl, x, p, rfl, hp, h4, fun b hb => ?_⟩
  obtain ⟨dx, hs, tk, h1, h2, h3⟩ := id hp
  refine ⟨_, rfl, x, dx, _, _, rfl, h1, rfl, tk, _, rfl, .inr (SqT.of h3), rfl, _, rfl, ?_⟩
  rw [dint, nv_len]
  refine ite2 (fun c => ?_) (fun c => ?_)
  · have e : p.trick = [] := by simpa using c
    refine ⟨_, rfl, q b H (Same.refl H) ?_⟩
    rw [hb]
    unfold legal
    rw [e]
  · obtain ⟨c0, r, e⟩ : ∃ c0 r, p.trick = c0 :: r := by
      cases e : p.trick with
      | nil => rw [e] at c; exact absurd (by simp) c
      | cons c0 r => exact ⟨c0, r, rfl⟩
    refine ⟨_, rfl, x, dx, _, _, rfl, h1, rfl, tk, _, _, _, rfl, rfl, SqT.of h3, (show atI (nv p.trick) 0 = some (.int (c0 : Int)) from atI_nat (j := 0) (by rw [e]; rfl)), rfl, c0, rfl, ?_⟩
    refine ⟨_, rfl, b, rfl, ⟨_, SqT.of hb⟩, fun l hl => ?_⟩
    have s0 : Same H (upd H l (.lst [])) := same_new hl _
    have nb : ∀ {H' : Hp} {u : HO}, Same H H' → Same H (upd H' l u) := fun s => same_upd hl s _
    refine lc_tup (K := K) (xs := nv (handOf p (turnOf p))) (fun i H' => Same H H' ∧ H' l = some (.lst (nv (((handOf p (turnOf p)).take i).filter fun d => suitOf d == suitOf c0)))) ⟨s0, upd_same⟩ (fun i H' _ g => SqT.of (g.1 _ _ hb)) (fun i y H' hi g => ?_) (fun H' g => ?_)
    · obtain ⟨n, hn, rfl⟩ := of_nv hi
      refine ⟨rfl, ?_⟩
      refine ⟨_, rfl, rfl, n, rfl, _, rfl, rfl, _, rfl, ?_⟩
      rw [dint]
      have cond : decide (((suitOf n : Nat) : Int) = ((suitOf c0 : Nat) : Int)) = (suitOf n == suitOf c0) := by
        rw [Bool.eq_iff_iff]; simp [Int.ofNat_inj]
      rw [cond]
      have step := filter_take (p := fun d => suitOf d == suitOf c0) hn
      refine ite2 (fun c => ?_) (fun c => ?_)
      · refine ⟨_, rfl, _, g.2, ?_, nb g.1, ?_⟩
        · rw [nv_len]
          refine szl _ ?_
          have := List.length_filter_le (fun d => suitOf d == suitOf c0) ((handOf p (turnOf p)).take i)
          rw [List.length_take] at this
          omega
        · rw [upd_same, step]
          have c' : (fun d => suitOf d == suitOf c0) n = true := c
          rw [if_pos c']
          unfold nv
          rw [List.map_append]
          rfl
      · refine ⟨g.1, ?_⟩
        rw [g.2, step]
        have c' : ¬ (fun d => suitOf d == suitOf c0) n = true := c
        rw [if_neg c', List.append_nil]
    · obtain ⟨g1, g2⟩ := g
      rw [nv_len, List.take_length] at g2
      refine ⟨l, _, rfl, .inl ⟨SqL.of g2, fun t ht => ?_⟩⟩
      have g3 : Same H (upd H' t (.tup (nv ((handOf p (turnOf p)).filter fun d => suitOf d == suitOf c0)))) := g1.trans (same_new ht _)
      refine ⟨_, rfl, t, _, rfl, .inr (SqT.of upd_same), _, _, rfl, rfl, _, rfl, ?_⟩
      rw [nv_len]
      have lg : legal p = if ((handOf p (turnOf p)).filter fun d => suitOf d == suitOf c0).isEmpty = true then handOf p (turnOf p) else (handOf p (turnOf p)).filter fun d => suitOf d == suitOf c0 := by
        unfold legal
        rw [e]
      refine ite2 (fun c => ?_) (fun c => ?_)
      · refine ⟨_, rfl, q t _ g3 ?_⟩
        rw [upd_same, lg, if_neg]
        intro z
        rw [List.isEmpty_iff] at z
        rw [z] at c
        exact absurd c (by decide)
      · refine ⟨_, rfl, q b _ g3 ?_⟩
        rw [g3 _ _ hb, lg, if_pos]
        rw [List.isEmpty_iff]
        refine List.eq_nil_of_length_eq_zero ?_
        simp at c
        simpa using c
end
end Lt
/-! # LtQ: positions.py, the rest -/
namespace Lt
open PySem PySem.Spec PyProof.Rows L2
open Vbbraf (handOf turnOf held toCome legal suitOf over winsAt winner without behind gained total)

theorem nv_ints (l : List Nat) : nv l = (l.map fun (n : Nat) => (n : Int)).map V.int := by
  unfold nv
  rw [List.map_map]
  rfl
theorem nv_app (l m : List Nat) : nv (l ++ m) = nv l ++ nv m := List.map_append
theorem sum_cast : ∀ l : List Nat, (l.map fun (n : Nat) => (n : Int)).sum = ((total l : Nat) : Int)
  | [] => rfl
  | n :: r => by
    rw [List.map_cons, List.sum_cons, sum_cast r, total_cons]
    omega
theorem take_more {α : Type} {l : List α} {i : Nat} {x : α} (h : l[i]? = some x) : l.take (i + 1) = l.take i ++ [x] := by
  obtain ⟨hl, e⟩ := List.getElem?_eq_some_iff.mp h
  rw [List.take_succ_eq_append_getElem hl, e]
section
variable {K : PySem.W.Frag} {H : Hp}
/-- t + u, tuples that are tracked: what comes is a tuple of both -/
theorem use_cat {x y : Addr} {xs ys : List V} {Q : VK} (hx : H x = some (.tup xs)) (hy : H y = some (.tup ys)) (hz : xs.length + ys.length ≤ 1000) (q : ∀ p H', Same H H' → H' p = some (.tup (xs ++ ys)) → Q (.ref p) H') : rCatA K (.ref x) (.ref y) H Q := by
  refine ⟨x, y, xs, ys, rfl, rfl, SqT.of hx, SqT.of hy, sz _ hz, fun e => ?_, fun _ e => ?_, fun _ _ p hp => ?_⟩
  · exact q y H (Same.refl H) (by rw [hy, e]; rfl)
  · exact q x H (Same.refl H) (by rw [hx, e, List.append_nil])
  · exact q p _ (same_new hp _) upd_same
theorem use_cut {x : Addr} {xs : List V} {lo hi : Option Int} {Q : VK} (hx : H x = some (.tup xs)) (q : ∀ p H', Same H H' → H' p = some (.tup (cutV xs lo hi)) → Q (.ref p) H') : rSlA K (.ref x) lo hi H Q := by
  refine ⟨x, xs, rfl, SqT.of hx, fun e => ?_, fun _ p hp => q p _ (same_new hp _) upd_same⟩
  refine q x H (Same.refl H) ?_
  unfold cutV
  rw [e.1, e.2, hx, List.drop_zero, Nat.sub_zero, List.take_length]
end
section
variable {P : Program} {w : World} {K : PySem.W.Frag} {mg : Str → Option Value} {base : Heap} {a : Ads}
def sp_cards_left (a : Ads) : Sp := fun vs H Q _ => vs.length = 1 ∧ ∃ x p, vs = [.ref x] ∧ PosAt a.P H x p ∧ p.hands.length = 4 ∧ ∀ H', Same H H' → Q (.int (held p : Nat)) H'
theorem ok_cards_left (D : Dn K mg "cards_left" s_cards_left) (T : Txt K mg a) : FnA P w K mg base CX0 1 "cards_left" (sp_cards_left a) := by
  refine D.ok sc_cards_left (fun _ _ _ _ _ _ us hl => match us, hl with | [_], _ => rfl) (fun _ _ _ _ h => h.1) fun f cdv A outer s H vs Q E hr h => ⟨_, (pss_one (ps_ret (pe_callB (cr_sum rfl) (by rfl) T.m_sum (by decide +kernel) (pa_cons (pe_lc (own := [("hand", 1)]) (g := gName 1) rfl sc_cards_left.nd (pi_tup (pe_f 0 T.kP (pv 0))) (blkOk_by (own := [("hand", 1)]) (N := N_cards_left) (sc := defScope s_cards_left) (by decide +kernel)) (fun _ _ _ _ _ => pg_name (i := 1) sc_cards_left.nd rfl (Or.inl rfl)) (fun _ _ _ _ _ => pts_nil) (fun _ _ _ _ _ => (pe_callB (cl_len (K := K)) (by rfl) T.m_len PySem.boot_len (pa_cons (pv 1) pa_nil)))) pa_nil)))), ?_⟩
  obtain ⟨_, x, p, rfl, ⟨dx, hs, tk, h1, ⟨as, ha, h2⟩, h3⟩, h4, q⟩ := h
  refine ⟨_, rfl, x, dx, _, _, rfl, h1, rfl, hs, rfl, ⟨_, SqT.of ha⟩, fun l hl => ?_⟩
  refine lc_tup (K := K) (xs := as.map V.ref) (fun i H' => Same H H' ∧ H' l = some (.lst (nv ((p.hands.map fun h => h.length).take i)))) ⟨same_new hl _, upd_same⟩ (fun i H' _ g => SqT.of (g.1 _ _ ha)) (fun i y H' hi g => ?_) (fun H' g => ?_)
  · rw [List.getElem?_map] at hi
    cases e : as[i]? with
    | none => rw [e] at hi; cases hi
    | some b =>
      rw [e] at hi
      have hi' := Option.some.inj hi
      subst hi'
      obtain ⟨r, hr', hb⟩ := h2.at e
      refine ⟨rfl, _, rfl, b, _, rfl, .inr (SqT.of (g.1 _ _ hb)), _, g.2, ?_, same_upd hl g.1 _, ?_⟩
      · rw [nv_len, List.length_take, List.length_map, h4]
        exact szl _ (by omega)
      · rw [upd_same, take_more (x := r.length) (by rw [List.getElem?_map, hr']; rfl), nv_app, nv_len]
        rfl
  · obtain ⟨g1, g2⟩ := g
    have hl4 : as.length = p.hands.length := h2.len
    rw [List.length_map, hl4, ← List.length_map (fun h : List Nat => h.length) (as := p.hands), List.take_length] at g2
    refine ⟨l, (p.hands.map fun h => h.length).map fun (n : Nat) => (n : Int), rfl, ?_, ?_⟩
    · rw [← nv_ints]
      exact SqL.of g2
    · rw [sum_cast]
      exact q H' g1
def sp_tricks_left (a : Ads) : Sp := fun vs H Q _ => vs.length = 1 ∧ ∃ x p, vs = [.ref x] ∧ PosAt a.P H x p ∧ p.hands.length = 4 ∧ ∀ H', Same H H' → Q (.int (toCome p : Nat)) H'
theorem ok_tricks_left (D : Dn K mg "tricks_left" s_tricks_left) (T : Txt K mg a) (F_cards_left : FnA P w K mg base CX0 1 "cards_left" (sp_cards_left a)) : FnA P w K mg base CX0 2 "tricks_left" (sp_tricks_left a) := by
  refine D.ok sc_tricks_left (fun _ _ _ _ _ _ us hl => match us, hl with | [_], _ => rfl) (fun _ _ _ _ h => h.1) fun f cdv A outer s H vs Q E hr h => ⟨_, (pss_one (ps_ret (pe_op op_fdiv (pe_op op_add (pc F_cards_left hr (by decide) (pa_cons (pv 0) pa_nil)) (pe_callB (cl_len (K := K)) (by rfl) T.m_len PySem.boot_len (pa_cons (pe_f 3 T.kP (pv 0)) pa_nil))) pe_int))), ?_⟩
  obtain ⟨_, x, p, rfl, hp, h4, q⟩ := h
  refine ⟨_, rfl, rfl, x, p, rfl, hp, h4, fun H' s1 => ?_⟩
  obtain ⟨dx, hs, tk, h1, h2, h3⟩ := hp.same s1
  refine ⟨_, rfl, x, dx, _, _, rfl, h1, rfl, tk, _, rfl, .inr (SqT.of h3), _, _, rfl, rfl, _, _, rfl, rfl, ⟨by decide, by decide⟩, ?_⟩
  rw [nv_len]
  exact q H' s1
def sp_beats : Sp := fun vs H Q _ => vs.length = 3 ∧ ∃ c b t : Nat, vs = [.int (c : Int), .int (b : Int), .int (t : Int)] ∧ Q (.bl (over t b c)) H
theorem ok_beats (D : Dn K mg "beats" s_beats) (T : Txt K mg a) (F_suit_of : FnA P w K mg base CX0 1 "suit_of" sp_suit_of) : FnA P w K mg base CX0 2 "beats" sp_beats := by
  refine D.ok sc_beats (fun _ _ _ _ _ _ us hl => match us, hl with | [_, _, _], _ => rfl) (fun _ _ _ _ h => h.1) fun f cdv A outer s H vs Q E hr h => ⟨_, (pss_cons (ps_if (pt_cmpR op_eq (pc F_suit_of hr (by decide) (pa_cons (pv 0) pa_nil)) (pc F_suit_of hr (by decide) (pa_cons (pv 1) pa_nil)) (nomark _)) (pss_one (ps_ret (pe_cmpR op_gt (pv 0) (pv 1) (nomark _)))) pss_nil)
      (pss_one (ps_ret (pe_cmpR op_eq (pc F_suit_of hr (by decide) (pa_cons (pv 0) pa_nil)) (pv 2) (nomark _))))), ?_⟩
  obtain ⟨_, c, b, t, rfl, q⟩ := h
  refine ⟨_, rfl, rfl, c, rfl, _, rfl, rfl, b, rfl, rfl, _, rfl, ?_⟩
  rw [dint]
  unfold over at q
  refine ite2 (fun z => ?_) (fun z => ?_)
  · have e : suitOf b = suitOf c := by have := of_decide_eq_true z; omega
    rw [if_pos e] at q
    refine ⟨_, rfl, _, rfl, _, _, rfl, rfl, ?_⟩
    have e2 : decide ((b : Int) < (c : Int)) = decide (b < c) := by rw [Bool.eq_iff_iff]; simp [Int.ofNat_lt]
    show Q (.bl (decide ((b : Int) < (c : Int)))) H
    rw [e2]
    exact q
  · have e : ¬ suitOf b = suitOf c := fun y => z (decide_eq_true (by omega))
    rw [if_neg e] at q
    refine ⟨_, rfl, rfl, c, rfl, _, rfl, rfl, ?_⟩
    rw [dint]
    have e2 : decide (((suitOf c : Nat) : Int) = (t : Int)) = (suitOf c == t) := by rw [Bool.eq_iff_iff]; simp [Int.ofNat_inj]
    rw [e2]
    exact q
def bestN (t : Nat) (tr : List Nat) : Nat → Nat
  | 0 => 0
  | i + 1 => if over t (tr.getD (bestN t tr i) 0) (tr.getD (i + 1) 0) = true then i + 1 else bestN t tr i
theorem bestN_le (t : Nat) (tr : List Nat) : ∀ i, bestN t tr i ≤ i
  | 0 => Nat.le_refl _
  | i + 1 => by
    have := bestN_le t tr i
    unfold bestN
    split <;> omega
theorem winner_best (p : Vbbraf.Pos) {tr : List Nat} (h : tr.length = 4) : winner p tr = (p.leader + bestN p.trump tr 3) % 4 := by
  match tr, h with
  | [x0, x1, x2, x3], _ =>
    show (p.leader + winsAt p.trump [x1, x2, x3] 1 x0 0) % 4 = _
    congr 2
    simp only [winsAt, bestN]
    by_cases c1 : over p.trump x0 x1 = true <;> simp [c1]
    · by_cases c2 : over p.trump x1 x2 = true <;> simp [c2]
    · by_cases c2 : over p.trump x0 x2 = true <;> simp [c2]
def sp_winning_seat : Sp := fun vs H Q _ => vs.length = 3 ∧ ∃ (tk : Addr) (p : Vbbraf.Pos) (tr : List Nat), vs = [.ref tk, .int (p.trump : Nat), .int (p.leader : Nat)] ∧ tr.length = 4 ∧ H tk = some (.tup (nv tr)) ∧ Q (.int (winner p tr : Nat)) H
theorem nv_at {tr : List Nat} {i : Nat} (h : i < tr.length) : atI (nv tr) ((i : Nat) : Int) = some (.int ((tr.getD i 0 : Nat) : Int)) := by
  refine atI_nat (nv_get ?_)
  rw [List.getD_eq_getElem?_getD, List.getElem?_eq_getElem h]
  rfl
theorem ok_winning_seat (D : Dn K mg "winning_seat" s_winning_seat) (T : Txt K mg a) (F_beats : FnA P w K mg base CX0 2 "beats" sp_beats) : FnA P w K mg base CX0 3 "winning_seat" sp_winning_seat := by
  refine D.ok sc_winning_seat (fun _ _ _ _ _ _ us hl => match us, hl with | [_, _, _], _ => rfl) (fun _ _ _ _ h => h.1) fun f cdv A outer s H vs Q E hr h => ⟨_, (pss_cons (ps_set (i := 3) sc_winning_seat.nd rfl (Or.inl rfl) pe_int)
      (pss_cons (ps_for PassesOwn.never rfl (pi_range2 (by rfl) T.m_range (pa_cons pe_int (pa_cons pe_int pa_nil))) (pg_name (i := 4) sc_winning_seat.nd rfl (Or.inl rfl)) (pss_one (ps_if (pt_val (pc F_beats hr (by decide) (pa_cons (pe_ix (ix_tupK (K := K)) (pv 0) (pv 4) (fun _ _ => rfl)) (pa_cons (pe_ix (ix_tupK (K := K)) (pv 0) (pv 3) (fun _ _ => rfl)) (pa_cons (pv 1) pa_nil))))) (pss_one (ps_set (i := 3) sc_winning_seat.nd rfl (Or.inl rfl) (pv 4))) pss_nil)))
      (pss_one (ps_ret (pe_op op_mod (pe_op op_add (pv 2) (pv 3)) pe_int))))), ?_⟩
  obtain ⟨_, tk, p, tr, rfl, h4, htk, q⟩ := h
  refine ⟨1, 4, rfl, by decide, for_range (lo := 1) (n := 3) (fun i σ H' => H' = H ∧ ∃ v, σ = [some (.ref tk), some (.int (p.trump : Nat)), some (.int (p.leader : Nat)), some (.int (bestN p.trump tr i : Nat)), v]) ⟨rfl, none, rfl⟩ ?_ ?_⟩
  · rintro i σ H' hi ⟨rfl, v, rfl⟩
    have ei : (1 : Int) + (i : Int) = ((i + 1 : Nat) : Int) := by omega
    have hb := bestN_le p.trump tr i
    refine ⟨_, rfl, _, rfl, tk, _, _, _, rfl, rfl, SqT.of htk, (by rw [ei]; exact nv_at (by omega)), _, rfl, _, rfl, tk, _, _, _, rfl, rfl, SqT.of htk, nv_at (by omega), _, rfl, rfl, _, _, _, rfl, _, rfl, ?_⟩
    refine ite2 (fun c => ?_) (fun c => ?_)
    · refine ⟨_, rfl, rfl, some (.int (1 + (i : Int))), ?_⟩
      have e : bestN p.trump tr (i + 1) = i + 1 := by
        show (if over p.trump (tr.getD (bestN p.trump tr i) 0) (tr.getD (i + 1) 0) = true then i + 1 else bestN p.trump tr i) = _
        rw [if_pos c]
      rw [e, ei]
      rfl
    · refine ⟨rfl, some (.int (1 + (i : Int))), ?_⟩
      have e : bestN p.trump tr (i + 1) = bestN p.trump tr i := by
        show (if over p.trump (tr.getD (bestN p.trump tr i) 0) (tr.getD (i + 1) 0) = true then i + 1 else bestN p.trump tr i) = _
        rw [if_neg c]
      rw [e]
      rfl
  · rintro σ H' ⟨rfl, v, rfl⟩
    refine ⟨_, rfl, _, rfl, _, _, rfl, rfl, _, _, rfl, rfl, (by show (0 : Int) < 4; decide), ?_⟩
    rw [winner_best p h4] at q
    exact q
theorem set_cut {α : Type} : ∀ (l : List α) (s : Nat) (x : α), s < l.length → (l.take s ++ [x]) ++ l.drop (s + 1) = l.set s x
  | [], s, _, h => by simp at h
  | a :: l, 0, x, _ => by simp
  | a :: l, s + 1, x, h => by
    have ih := set_cut l s x (by simpa using h)
    simpa using ih
def sp_hands_without : Sp := fun vs H Q _ => vs.length = 3 ∧ ∃ (b : Addr) (hs : List (List Nat)) (s c : Nat), vs = [.ref b, .int (s : Int), .int (c : Int)] ∧ HandsAt H b hs ∧ hs.length = 4 ∧ s < 4 ∧ (hs.getD s []).length ≤ 100 ∧
  ∀ p H', Same H H' → HandsAt H' p (hs.set s (without c (hs.getD s []))) → Q (.ref p) H'
theorem ok_hands_without (D : Dn K mg "hands_without" s_hands_without) (T : Txt K mg a) : FnA P w K mg base CX0 1 "hands_without" sp_hands_without := by
  refine D.ok sc_hands_without (fun _ _ _ _ _ _ us hl => match us, hl with | [_, _, _], _ => rfl) (fun _ _ _ _ h => h.1) fun f cdv A outer st H vs Q E hr h => ⟨_, (pss_cons (ps_set (i := 3) sc_hands_without.nd rfl (Or.inl rfl) (pe_callTy (cl_tuple (K := K)) (by rfl) T.m_tuple (by decide +kernel) (pa_cons (pe_lc (own := [("other", 4)]) (g := gName 4) rfl sc_hands_without.nd (pi_tup (pe_ix (ix_tupK (K := K)) (pv 0) (pv 1) (fun _ _ => rfl))) (blkOk_by (own := [("other", 4)]) (N := N_hands_without) (sc := defScope s_hands_without) (by decide +kernel)) (fun _ _ _ _ _ => pg_name (i := 4) sc_hands_without.nd rfl (Or.inl rfl)) (fun _ _ _ _ _ => (pts_one (pt_cmpR op_ne (pv 4) (pv 2) (nomark _)))) (fun _ _ _ _ _ => (pv 4))) pa_nil)))
      (pss_one (ps_ret (pe_op op_catA (pe_op op_catA (pe_slice sl_tupA (pv 0) po_none (po_some (pv 1))) (pe_tup (pa_cons (pv 3) pa_nil))) (pe_slice sl_tupA (pv 0) (po_some (pe_op op_add (pv 1) pe_int)) po_none))))), ?_⟩
  obtain ⟨_, b, hs, s, c, rfl, ⟨as, ha, h2⟩, h4, hs4, hz, q⟩ := h
  obtain ⟨e, e1, e3, e2⟩ := hand_tup ha h2 (s := s) (by omega)
  refine ⟨_, rfl, _, rfl, b, _, _, _, rfl, rfl, SqT.of ha, e1, e, rfl, ⟨_, SqT.of e2⟩, fun l hl => ?_⟩
  refine lc_tup (K := K) (xs := nv (hs.getD s [])) (fun i H' => Same H H' ∧ H' l = some (.lst (nv (((hs.getD s []).take i).filter fun d => d != c)))) ⟨same_new hl _, upd_same⟩ (fun i H' _ g => SqT.of (g.1 _ _ e2)) (fun i y H' hi g => ?_) (fun H' g => ?_)
  · obtain ⟨n, hn, rfl⟩ := of_nv hi
    refine ⟨rfl, _, rfl, _, rfl, rfl, _, rfl, ?_⟩
    rw [dint]
    have cond : (!decide ((n : Int) = (c : Int))) = (n != c) := by
      rw [Bool.eq_iff_iff]; simp [Int.ofNat_inj]
    rw [cond]
    have step := filter_take (p := fun d => d != c) hn
    refine ite2 (fun z => ?_) (fun z => ?_)
    · refine ⟨_, rfl, _, g.2, ?_, same_upd hl g.1 _, ?_⟩
      · rw [nv_len]
        refine szl _ ?_
        have := List.length_filter_le (fun d => d != c) ((hs.getD s []).take i)
        rw [List.length_take] at this
        omega
      · rw [upd_same, step]
        have z' : (fun d => d != c) n = true := z
        rw [if_pos z', nv_app]
        rfl
    · refine ⟨g.1, ?_⟩
      rw [g.2, step]
      have z' : ¬ (fun d => d != c) n = true := z
      rw [if_neg z', List.append_nil]
  · obtain ⟨g1, g2⟩ := g
    rw [nv_len, List.take_length] at g2
    refine ⟨l, _, rfl, .inl ⟨SqL.of g2, fun t ht => ?_⟩⟩
    have g3 : Same H (upd H' t (.tup (nv ((hs.getD s []).filter fun d => d != c)))) := g1.trans (same_new ht _)
    have g4 : (upd H' t (.tup (nv ((hs.getD s []).filter fun d => d != c)))) t = some (.tup (nv (without c (hs.getD s [])))) := upd_same
    generalize upd H' t (.tup (nv ((hs.getD s []).filter fun d => d != c))) = H3 at g3 g4 ⊢
    have la : as.length = 4 := by rw [h2.len, h4]
    refine ⟨_, rfl, _, rfl, (s : Int), rfl, use_cut (g3 _ _ ha) fun p1 H4 s4 c4 => ⟨_, rfl, sz 1 (by decide), fun p2 hp2 => ?_⟩⟩
    refine use_cat (same_new hp2 _ _ _ c4) upd_same ?_ fun p3 H5 s5 c5 => ?_
    · have := cutV_length (as.map V.ref) none (some (s : Int))
      rw [List.length_map, la] at this
      show _ + 1 ≤ 1000
      omega
    have s35 : Same H3 H5 := s4.trans ((same_new hp2 _).trans s5)
    have s05 : Same H H5 := g3.trans s35
    refine ⟨_, rfl, _, rfl, _, _, rfl, rfl, ((s : Int) + 1), rfl, ?_⟩
    dsimp only [tNoPart]
    refine use_cut (s05 _ _ ha) fun p4 H6 s6 c6 => ?_
    refine use_cat (s6 _ _ c5) c6 ?_ fun p5 H7 s7 c7 => ?_
    · have z1 := cutV_length (as.map V.ref) none (some (s : Int))
      have z2 := cutV_length (as.map V.ref) (some ((s : Int) + 1)) none
      rw [List.length_map, la] at z1 z2
      rw [List.length_append]
      show _ + 1 + _ ≤ 1000
      omega
    refine q p5 H7 (s05.trans (s6.trans s7)) ⟨as.set s t, ?_, ?_⟩
    · rw [c7]
      congr 2
      have k1 : cutV (as.map V.ref) none (some (s : Int)) = (as.map V.ref).take s := by
        unfold cutV
        rw [HT.sIx_none, HT.sIx_nat, List.drop_zero, List.length_map, la]
        congr 1
        omega
      have k2 : cutV (as.map V.ref) (some ((s : Int) + 1)) none = (as.map V.ref).drop (s + 1) := by
        unfold cutV
        have e5 : ((s : Int) + 1) = ((s + 1 : Nat) : Int) := by omega
        rw [e5, HT.sIx_none, HT.sIx_nat, List.length_map, la]
        have e6 : min (s + 1) 4 = s + 1 := by omega
        rw [e6]
        refine List.take_of_length_le ?_
        rw [List.length_drop, List.length_map, la]
        exact Nat.le_refl _
      rw [k1, k2]
      show (as.map V.ref).take s ++ [V.ref t] ++ (as.map V.ref).drop (s + 1) = (as.set s t).map V.ref
      rw [set_cut _ _ _ (by rw [List.length_map, la]; exact hs4), List.map_set]
    · exact (h2.imp (Kp.of (s05.trans (s6.trans s7))).tup).set ((s35.trans (s6.trans s7)) _ _ g4)
theorem trick_app {H : Hp} {tk p : Addr} {tr : List Nat} {c : Nat} {Q : VK} {K : PySem.W.Frag} (h1 : H tk = some (.tup (nv tr))) (h2 : H p = some (.tup [.int (c : Int)])) (hl : tr.length ≤ 3) (q : ∀ y H', Same H H' → H' y = some (.tup (nv (tr ++ [c]))) → Q (.ref y) H') : rCatA K (.ref tk) (.ref p) H Q :=
  use_cat h1 h2 (by rw [nv_len]; show _ + 1 ≤ 1000; omega) fun y H' s e => q y H' s (by rw [e, nv_app]; rfl)
def sp_position_after (a : Ads) : Sp := fun vs H Q _ => vs.length = 2 ∧ ∃ (x : Addr) (p : Vbbraf.Pos) (c : Nat), vs = [.ref x, .int (c : Int)] ∧ PosAt a.P H x p ∧ p.hands.length = 4 ∧ (handOf p (turnOf p)).length ≤ 100 ∧ p.trick.length ≤ 3 ∧
  ∀ y H', Same H H' → PosAt a.P H' y (behind p c).1 → Q (.ref y) H'
theorem ok_position_after (D : Dn K mg "position_after" s_position_after) (T : Txt K mg a) (F_seat_on_turn : FnA P w K mg base CX0 1 "seat_on_turn" (sp_seat_on_turn a)) (F_hands_without : FnA P w K mg base CX0 1 "hands_without" sp_hands_without) (F_winning_seat : FnA P w K mg base CX0 3 "winning_seat" sp_winning_seat)
    (K_P : MkA P w K mg base 1 "Position" a.P (spRec a.P nP)) : FnA P w K mg base CX0 4 "position_after" (sp_position_after a) := by
  refine D.ok sc_position_after (fun _ _ _ _ _ _ us hl => match us, hl with | [_, _], _ => rfl) (fun _ _ _ _ h => h.1) fun f cdv A outer s H vs Q E hr h => ⟨_, (pss_cons (ps_set (i := 2) sc_position_after.nd rfl (Or.inl rfl) (pc F_hands_without hr (by decide) (pa_cons (pe_f 0 T.kP (pv 0)) (pa_cons (pc F_seat_on_turn hr (by decide) (pa_cons (pv 0) pa_nil)) (pa_cons (pv 1) pa_nil)))))
      (pss_cons (ps_set (i := 3) sc_position_after.nd rfl (Or.inl rfl) (pe_op op_catA (pe_f 3 T.kP (pv 0)) (pe_tup (pa_cons (pv 1) pa_nil))))
      (pss_cons (ps_if (pt_cmpR op_lt (pe_callB (cl_len (K := K)) (by rfl) T.m_len PySem.boot_len (pa_cons (pv 3) pa_nil)) pe_int (nomark _)) (pss_one (ps_ret (pmk K_P hr (by decide) (pa_cons (pv 2) (pa_cons (pe_f 1 T.kP (pv 0)) (pa_cons (pe_f 2 T.kP (pv 0)) (pa_cons (pv 3) pa_nil))))))) pss_nil)
      (pss_one (ps_ret (pmk K_P hr (by decide) (pa_cons (pv 2) (pa_cons (pe_f 1 T.kP (pv 0)) (pa_cons (pc F_winning_seat hr (by decide) (pa_cons (pv 3) (pa_cons (pe_f 1 T.kP (pv 0)) (pa_cons (pe_f 2 T.kP (pv 0)) pa_nil)))) (pa_cons (pe_tup pa_nil) pa_nil)))))))))), ?_⟩
  obtain ⟨_, x, p, c, rfl, hp, h4, hz, ht, q⟩ := h
  obtain ⟨dx, hs, tk, h1, h2, h3⟩ := id hp
  refine ⟨_, rfl, x, dx, _, _, rfl, h1, rfl, _, rfl, rfl, x, p, rfl, hp, _, rfl, rfl, hs, p.hands, turnOf p, c, rfl, h2, h4, Lt.turn_lt p, hz, fun y1 H1 s1 a1 => ?_⟩
  refine ⟨_, rfl, x, dx, _, _, rfl, s1 _ _ h1, rfl, _, rfl, sz 1 (by decide), fun y2 hy2 => ?_⟩
  refine trick_app (same_new hy2 _ _ _ (s1 _ _ h3)) upd_same ht fun y3 H3 s3 a3 => ?_
  have s03 : Same H H3 := s1.trans ((same_new hy2 _).trans s3)
  have a13 : HandsAt H3 y1 (handsAfter p c) := a1.imp (Kp.of ((same_new hy2 _).trans s3)).tup
  refine ⟨_, rfl, y3, _, rfl, .inr (SqT.of a3), _, _, rfl, rfl, _, rfl, ?_⟩
  rw [nv_len, List.length_append, List.length_singleton]
  refine ite2 (fun z => ?_) (fun z => ?_)
  · have z' : p.trick.length < 3 := by have := of_decide_eq_true z; omega
    refine ⟨_, rfl, _, rfl, x, dx, _, _, rfl, s03 _ _ h1, rfl, _, rfl, x, dx, _, _, rfl, s03 _ _ h1, rfl, _, rfl, use_rec rfl fun y4 H4 _ s4 ⟨d4, a4⟩ => ?_⟩
    refine q y4 H4 (s03.trans s4) ?_
    rw [behind_few z']
    exact ⟨d4, y1, y3, a4, a13.imp (Kp.of s4).tup, s4 _ _ a3⟩
  · have z' : p.trick.length = 3 := by
      have : ¬ ((p.trick.length + 1 : Nat) : Int) < 4 := fun y => z (decide_eq_true y)
      omega
    refine ⟨_, rfl, _, rfl, x, dx, _, _, rfl, s03 _ _ h1, rfl, _, rfl, _, rfl, x, dx, _, _, rfl, s03 _ _ h1, rfl, _, rfl, x, dx, _, _, rfl, s03 _ _ h1, rfl, rfl, y3, p, p.trick ++ [c], rfl, (by simp [z']), a3, ?_⟩
    refine ⟨sz 0 (by decide), fun y4 hy4 => use_rec rfl fun y5 H5 _ s5 ⟨d5, a5⟩ => ?_⟩
    have s35 : Same H3 H5 := (same_new hy4 _).trans s5
    refine q y5 H5 (s03.trans s35) ?_
    rw [behind_last z']
    exact ⟨d5, y1, y4, a5, a13.imp (Kp.of s35).tup, s5 _ _ upd_same⟩
def sideV (p : Vbbraf.Pos) (c : Nat) : V := match (behind p c).2 with
  | some s => .int (s % 2 : Nat)
  | none => .non
def sp_side_of_trick (a : Ads) : Sp := fun vs H Q _ => vs.length = 2 ∧ ∃ (x : Addr) (p : Vbbraf.Pos) (c : Nat), vs = [.ref x, .int (c : Int)] ∧ PosAt a.P H x p ∧ p.trick.length ≤ 3 ∧ ∀ H', Same H H' → Q (sideV p c) H'
theorem ok_side_of_trick (D : Dn K mg "side_of_trick" s_side_of_trick) (T : Txt K mg a) (F_side_of : FnA P w K mg base CX0 1 "side_of" sp_side_of) (F_winning_seat : FnA P w K mg base CX0 3 "winning_seat" sp_winning_seat) : FnA P w K mg base CX0 4 "side_of_trick" (sp_side_of_trick a) := by
  refine D.ok sc_side_of_trick (fun _ _ _ _ _ _ us hl => match us, hl with | [_, _], _ => rfl) (fun _ _ _ _ h => h.1) fun f cdv A outer s H vs Q E hr h => ⟨_, (pss_cons (ps_if (pt_cmpR op_lt (pe_callB (cl_len (K := K)) (by rfl) T.m_len PySem.boot_len (pa_cons (pe_f 3 T.kP (pv 0)) pa_nil)) pe_int (nomark _)) (pss_one (ps_ret pe_non)) pss_nil)
      (pss_one (ps_ret (pc F_side_of hr (by decide) (pa_cons (pc F_winning_seat hr (by decide) (pa_cons (pe_op op_catA (pe_f 3 T.kP (pv 0)) (pe_tup (pa_cons (pv 1) pa_nil))) (pa_cons (pe_f 1 T.kP (pv 0)) (pa_cons (pe_f 2 T.kP (pv 0)) pa_nil)))) pa_nil))))), ?_⟩
  obtain ⟨_, x, p, c, rfl, hp, ht, q⟩ := h
  obtain ⟨dx, hs, tk, h1, h2, h3⟩ := id hp
  refine ⟨_, rfl, x, dx, _, _, rfl, h1, rfl, tk, _, rfl, .inr (SqT.of h3), _, _, rfl, rfl, _, rfl, ?_⟩
  rw [nv_len]
  unfold sideV at q
  refine ite2 (fun z => ?_) (fun z => ?_)
  · have z' : p.trick.length < 3 := by have := of_decide_eq_true z; omega
    rw [behind_few z'] at q
    exact q H (Same.refl H)
  · have z' : p.trick.length = 3 := by
      have : ¬ ((p.trick.length : Nat) : Int) < 3 := fun y => z (decide_eq_true y)
      omega
    rw [behind_last z'] at q
    refine ⟨_, rfl, x, dx, _, _, rfl, h1, rfl, _, rfl, sz 1 (by decide), fun y2 hy2 => ?_⟩
    refine trick_app (same_new hy2 _ _ _ h3) upd_same ht fun y3 H3 s3 a3 => ?_
    have s03 : Same H H3 := (same_new hy2 _).trans s3
    exact ⟨_, rfl, x, dx, _, _, rfl, s03 _ _ h1, rfl, _, rfl, x, dx, _, _, rfl, s03 _ _ h1, rfl, rfl, y3, p, p.trick ++ [c], rfl, (by simp [z']), a3, rfl, _, rfl, q H3 s03⟩
def sp_tricks0 (a : Ads) : Sp := fun vs H Q _ => vs.length = 2 ∧ ∃ (x : Addr) (p : Vbbraf.Pos) (c : Nat), vs = [.ref x, .int (c : Int)] ∧ PosAt a.P H x p ∧ p.trick.length ≤ 3 ∧ ∀ H', Same H H' → Q (.int (gained (behind p c).2 : Nat)) H'
theorem ok_tricks0 (D : Dn K mg "tricks_of_side_0" s_tricks_of_side_0) (T : Txt K mg a) (F_side_of_trick : FnA P w K mg base CX0 4 "side_of_trick" (sp_side_of_trick a)) : FnA P w K mg base CX0 5 "tricks_of_side_0" (sp_tricks0 a) := by
  refine D.ok sc_tricks_of_side_0 (fun _ _ _ _ _ _ us hl => match us, hl with | [_, _], _ => rfl) (fun _ _ _ _ h => h.1) fun f cdv A outer s H vs Q E hr h => ⟨_, (pss_cons (ps_if (pt_cmpR op_eq (pc F_side_of_trick hr (by decide) (pa_cons (pv 0) (pa_cons (pv 1) pa_nil))) pe_int (nomark _)) (pss_one (ps_ret pe_int)) pss_nil)
      (pss_one (ps_ret pe_int))), ?_⟩
  obtain ⟨_, x, p, c, rfl, hp, ht, q⟩ := h
  refine ⟨_, rfl, _, rfl, rfl, x, p, c, rfl, hp, ht, fun H' s1 => ?_⟩
  unfold sideV
  have q' := q H' s1
  unfold gained at q'
  cases e : (behind p c).2 with
  | none =>
    rw [e] at q'
    exact ⟨rfl, _, rfl, if_f rfl q'⟩
  | some w =>
    rw [e] at q'
    refine ⟨rfl, _, rfl, ?_⟩
    rw [dint]
    dsimp only at q'
    refine ite2 (fun z => ?_) (fun z => ?_)
    · rw [if_pos (by have := of_decide_eq_true z; omega)] at q'
      exact q'
    · rw [if_neg (fun y => z (decide_eq_true (by omega)))] at q'
      exact q'
end
end Lt
/-! # LtK: what the memo holds, and how much it can hold -/
namespace Lt
open PySem PySem.Spec PyProof.Rows L2
open Vbbraf (handOf turnOf held toCome legal value valueBy behind gained)

theorem map_inj {α β : Type} {f : α → β} (hf : ∀ x y, f x = f y → x = y) : ∀ {l m : List α}, l.map f = m.map f → l = m
  | [], [], _ => rfl
  | a :: l, b :: m, h => by
    rw [List.map_cons, List.map_cons] at h
    injection h with h1 h2
    rw [hf _ _ h1, map_inj hf h2]
  | [], _ :: _, h => by simp at h
  | _ :: _, [], h => by simp at h
theorem keyOf_inj {hs hs' : List (List Nat)} {t t' l l' : Nat} (h : keyOf hs t l = keyOf hs' t' l') : hs = hs' ∧ t = t' ∧ l = l' := by
  unfold keyOf at h
  injection h with h
  injection h with h1 h
  injection h with h2 h
  injection h with h3 _
  injection h1 with h1
  injection h2 with h2
  injection h3 with h3
  refine ⟨map_inj (fun x y e => ?_) h1, by omega, by omega⟩
  injection e with e
  exact map_inj (fun n m e => by injection e with e; omega) e
/-- all parts of a row -/
def subl : List Nat → List (List Nat)
  | [] => [[]]
  | a :: r => subl r ++ (subl r).map (a :: ·)
theorem subl_mem : ∀ {x l : List Nat}, x.Sublist l → x ∈ subl l
  | _, _, .slnil => by simp [subl]
  | _, _, .cons a h => by
    unfold subl
    exact List.mem_append_left _ (subl_mem h)
  | _, _, .cons₂ a h => by
    unfold subl
    exact List.mem_append_right _ (List.mem_map.mpr ⟨_, subl_mem h, rfl⟩)
theorem subl_len : ∀ l : List Nat, (subl l).length = 2 ^ l.length
  | [] => rfl
  | a :: r => by
    unfold subl
    rw [List.length_append, List.length_map, subl_len r, List.length_cons, Nat.pow_succ]
    omega
def subsAll : List (List Nat) → List (List (List Nat))
  | [] => [[]]
  | d :: ds => (subl d).flatMap fun x => (subsAll ds).map (x :: ·)
theorem subsAll_mem : ∀ {hs ds : List (List Nat)}, Subs hs ds → hs ∈ subsAll ds
  | [], [], _ => by simp [subsAll]
  | h :: hs, d :: ds, q => by
    unfold subsAll
    exact List.mem_flatMap.mpr ⟨h, subl_mem q.1, List.mem_map.mpr ⟨hs, subsAll_mem q.2, rfl⟩⟩
  | [], _ :: _, q => q.elim
  | _ :: _, [], q => q.elim
theorem flat_len {α β : Type} (f : α → List β) (k : Nat) : ∀ l : List α, (∀ x ∈ l, (f x).length = k) → (l.flatMap f).length = l.length * k
  | [], _ => by simp
  | a :: l, h => by
    rw [List.flatMap_cons, List.length_append, h a List.mem_cons_self, flat_len f k l fun x hx => h x (List.mem_cons_of_mem _ hx), List.length_cons, Nat.succ_mul]
    omega
theorem subsAll_len : ∀ ds : List (List Nat), (∀ d ∈ ds, d.length ≤ 4) → (subsAll ds).length ≤ 16 ^ ds.length
  | [], _ => Nat.le_refl _
  | d :: ds, h => by
    unfold subsAll
    rw [flat_len _ (subsAll ds).length _ (fun x _ => List.length_map _), subl_len, List.length_cons, Nat.pow_succ]
    have h1 := h d List.mem_cons_self
    have h2 := subsAll_len ds fun x hx => h x (List.mem_cons_of_mem _ hx)
    have h3 : 2 ^ d.length ≤ 2 ^ 4 := Nat.pow_le_pow_right (by decide) h1
    calc 2 ^ d.length * (subsAll ds).length ≤ 2 ^ 4 * 16 ^ ds.length := Nat.mul_le_mul h3 h2
      _ = 16 ^ ds.length * 16 := by omega
def allKeys (D : List (List Nat)) : List NestedKey := (subsAll D).flatMap fun hs => (List.range 5).flatMap fun t => (List.range 4).map fun l => keyOf hs t l
theorem allKeys_mem {D hs : List (List Nat)} {t l : Nat} (h : Subs hs D) (ht : t ≤ 4) (hl : l ≤ 3) : keyOf hs t l ∈ allKeys D :=
  List.mem_flatMap.mpr ⟨hs, subsAll_mem h, List.mem_flatMap.mpr ⟨t, List.mem_range.mpr (by omega), List.mem_map.mpr ⟨l, List.mem_range.mpr (by omega), rfl⟩⟩⟩
theorem allKeys_len {D : List (List Nat)} (h4 : D.length = 4) (h : ∀ d ∈ D, d.length ≤ 4) : (allKeys D).length ≤ 1310720 := by
  unfold allKeys
  rw [flat_len _ 20 _ (fun x _ => by rw [flat_len _ 4 _ (fun y _ => by rw [List.length_map, List.length_range]), List.length_range])]
  have z := subsAll_len D h
  rw [h4] at z
  have e : (16 : Nat) ^ 4 = 65536 := by decide
  omega
theorem nodup_le {α : Type} [DecidableEq α] : ∀ {l m : List α}, l.Nodup → (∀ x ∈ l, x ∈ m) → l.length ≤ m.length
  | [], _, _, _ => Nat.zero_le _
  | a :: l, m, nd, h => by
    rw [List.nodup_cons] at nd
    have ha := h a List.mem_cons_self
    have ih := nodup_le (l := l) (m := m.erase a) nd.2 fun x hx => by
      have : x ≠ a := fun e => nd.1 (e ▸ hx)
      exact (List.mem_erase_of_ne this).mpr (h x (List.mem_cons_of_mem _ hx))
    rw [List.length_erase_of_mem ha] at ih
    have : 0 < m.length := List.length_pos_of_mem ha
    rw [List.length_cons]
    omega
theorem stK_keys (kn : List Ent) (k : NestedKey) (b : Addr) (n : Int) : (stK kn k b n).map (·.1) = if k ∈ kn.map (·.1) then kn.map (·.1) else kn.map (·.1) ++ [k] := by
  unfold stK
  by_cases c : k ∈ kn.map (·.1)
  · rw [if_pos c, if_pos c, List.map_map]
    refine List.map_congr_left fun e _ => ?_
    show (if e.1 = k then (e.1, e.2.1, n) else e).1 = e.1
    split <;> rfl
  · rw [if_neg c, if_neg c, List.map_append]
    rfl
theorem stK_mem {kn : List Ent} {k : NestedKey} {b : Addr} {n : Int} {e : Ent} (h : e ∈ stK kn k b n) : e ∈ kn ∨ (e.1 = k ∧ e.2.2 = n ∧ (e.2.1 = b ∨ ∃ m, (k, e.2.1, m) ∈ kn)) := by
  unfold stK at h
  by_cases c : k ∈ kn.map (·.1)
  · rw [if_pos c] at h
    obtain ⟨e', h1, h2⟩ := List.mem_map.mp h
    by_cases c2 : e'.1 = k
    · rw [if_pos c2] at h2
      subst h2
      exact .inr ⟨c2, rfl, .inr ⟨e'.2.2, by rw [← c2]; exact h1⟩⟩
    · rw [if_neg c2] at h2
      subst h2
      exact .inl h1
  · rw [if_neg c] at h
    rcases List.mem_append.mp h with h | h
    · exact .inl h
    · have : e = (k, b, n) := by simpa using h
      subst this
      exact .inr ⟨rfl, rfl, .inl rfl⟩
theorem stK_has (kn : List Ent) (k : NestedKey) (b : Addr) (n : Int) : k ∈ (stK kn k b n).map (·.1) := by
  rw [stK_keys]
  by_cases c : k ∈ kn.map (·.1)
  · rw [if_pos c]; exact c
  · rw [if_neg c]; simp

/-- the hands as dealt: four, small -/
structure Small (D : List (List Nat)) : Prop where
  n4 : D.length = 4
  le : ∀ d ∈ D, d.length ≤ 4
/-- an entry of the memo -/
structure EntOk (D : List (List Nat)) (H : Hp) (e : Ent) : Prop where
  ex : ∃ hs t l, e.1 = keyOf hs t l ∧ KeyAt H e.2.1 hs t l ∧ Subs hs D ∧ t ≤ 4 ∧ l ≤ 3 ∧ e.2.2 = ((value ⟨hs, t, l, []⟩ : Nat) : Int)
structure KnOk (D : List (List Nat)) (H : Hp) (kn : List Ent) : Prop where
  nd : (kn.map (·.1)).Nodup
  ent : ∀ e ∈ kn, EntOk D H e
theorem EntOk.imp {D : List (List Nat)} {H H' : Hp} {e : Ent} (k : ∀ a xs, H a = some (.tup xs) → H' a = some (.tup xs)) (h : EntOk D H e) : EntOk D H' e := by
  obtain ⟨hs, t, l, e1, e2, e3⟩ := h.ex
  exact ⟨hs, t, l, e1, e2.imp k, e3⟩
theorem KnOk.imp {D : List (List Nat)} {H H' : Hp} {kn : List Ent} (k : ∀ a xs, H a = some (.tup xs) → H' a = some (.tup xs)) (h : KnOk D H kn) : KnOk D H' kn := ⟨h.nd, fun e he => (h.ent e he).imp k⟩
theorem KnOk.kis {D : List (List Nat)} {H : Hp} {kn : List Ent} (h : KnOk D H kn) : ∀ p ∈ kn, KIs H p.2.1 p.1 := fun p hp => by
  obtain ⟨hs, t, l, e1, e2, _⟩ := (h.ent p hp).ex
  exact ⟨hs, t, l, e1, e2⟩
theorem KnOk.few {D : List (List Nat)} {H : Hp} {kn : List Ent} (S : Small D) (h : KnOk D H kn) : kn.length ≤ sizeLine := by
  have z := nodup_le h.nd (m := allKeys D) fun k hk => by
    obtain ⟨e, he, rfl⟩ := List.mem_map.mp hk
    obtain ⟨hs, t, l, e1, _, e2, e3, e4, _⟩ := (h.ent e he).ex
    rw [e1]
    exact allKeys_mem e2 e3 e4
  rw [List.length_map] at z
  have z2 := allKeys_len S.n4 S.le
  rw [sizeLine_eq]
  omega
theorem KnOk.nil {D : List (List Nat)} {H : Hp} : KnOk D H [] := ⟨List.nodup_nil, fun _ h => absurd h (by simp)⟩
theorem KnOk.store {D : List (List Nat)} {H : Hp} {kn : List Ent} (h : KnOk D H kn) {hs : List (List Nat)} {t l : Nat} {b : Addr} (hk : KeyAt H b hs t l) (h1 : Subs hs D) (h2 : t ≤ 4) (h3 : l ≤ 3) : KnOk D H (stK kn (keyOf hs t l) b ((value ⟨hs, t, l, []⟩ : Nat) : Int)) := by
  refine ⟨?_, fun e he => ?_⟩
  · rw [stK_keys]
    split
    · exact h.nd
    · rename_i c
      refine List.nodup_append.mpr ⟨h.nd, by simp, fun x hx y hy e => c ?_⟩
      have : y = keyOf hs t l := by simpa using hy
      rw [← this, ← e]
      exact hx
  · rcases stK_mem he with z | ⟨z1, z2, z3⟩
    · exact h.ent e z
    · rcases z3 with z3 | ⟨m, z3⟩
      · exact ⟨hs, t, l, z1, by rw [z3]; exact hk, h1, h2, h3, z2⟩
      · obtain ⟨hs', t', l', e1, e2, _⟩ := (h.ent _ z3).ex
        obtain ⟨rfl, rfl, rfl⟩ := keyOf_inj e1
        exact ⟨hs, t, l, z1, e2, h1, h2, h3, z2⟩
theorem KnOk.look {D : List (List Nat)} {H : Hp} {kn : List Ent} (h : KnOk D H kn) {hs : List (List Nat)} {t l : Nat} : ∀ b m, (keyOf hs t l, b, m) ∈ kn → m = ((value ⟨hs, t, l, []⟩ : Nat) : Int) := fun b m hm => by
  obtain ⟨hs', t', l', e1, _, _, _, _, e2⟩ := (h.ent _ hm).ex
  obtain ⟨rfl, rfl, rfl⟩ := keyOf_inj e1
  exact e2
/-- the valuer at v, of the hands D -/
def ValAt (c : Addr) (w : World) (D : List (List Nat)) (H : Hp) (v : Addr) : Prop := ∃ dx d kn, H v = some (.ins c dx (nV.zip [.ref d])) ∧ H d = some (knO w d kn) ∧ KnOk D H kn
theorem ValAt.imp {c : Addr} {w : World} {D : List (List Nat)} {H H' : Hp} {v : Addr} (h : ValAt c w D H v) (ht : ∀ a xs, H a = some (.tup xs) → H' a = some (.tup xs)) (hx : ∀ a φ, H a = some (.ext φ) → H' a = some (.ext φ))
    (hi : ∀ a dx vals, H a = some (.ins c dx (nV.zip vals)) → vals.length = 1 → H' a = some (.ins c dx (nV.zip vals))) : ValAt c w D H' v :=
  let ⟨dx, d, kn, h1, h2, h3⟩ := h
  ⟨dx, d, kn, hi _ _ _ h1 rfl, hx _ _ h2, h3.imp ht⟩
theorem ValAt.same {c : Addr} {w : World} {D : List (List Nat)} {H H' : Hp} {v : Addr} (s : Same H H') (h : ValAt c w D H v) : ValAt c w D H' v := h.imp (fun a xs => s a _) (fun a φ => s a _) fun a dx vals e _ => s a _ e
theorem PosAt.imp {c : Addr} {H H' : Hp} {x : Addr} {p : Vbbraf.Pos} (h : PosAt c H x p) (ht : ∀ a xs, H a = some (.tup xs) → H' a = some (.tup xs))
    (hi : ∀ a dx vals, H a = some (.ins c dx (nP.zip vals)) → vals.length = 4 → H' a = some (.ins c dx (nP.zip vals))) : PosAt c H' x p :=
  let ⟨dx, hs, tk, h1, h2, h3⟩ := h
  ⟨dx, hs, tk, hi _ _ _ h1 rfl, h2.imp ht, ht _ _ h3⟩
theorem kp_new {H H' : Hp} {l : Addr} {o : HO} (h : H l = none) (k : Kp H H') : Kp H (upd H' l o) := fun b u e n => by
  rw [upd_ne (ne_of_none e h)]
  exact k b u e n
theorem keep_lst {H : Hp} {l : Addr} {xs : List V} {o : HO} (h : H l = some (.lst xs)) : ∀ b u, H b = some u → (∀ ys, u ≠ .lst ys) → upd H l o b = some u := fun b u e n => by
  rw [upd_ne (ne_of e h (n xs))]
  exact e
theorem ValAt.lst {c : Addr} {w : World} {D : List (List Nat)} {H : Hp} {v l : Addr} {xs : List V} {o : HO} (h : ValAt c w D H v) (hl : H l = some (.lst xs)) : ValAt c w D (upd H l o) v :=
  h.imp (fun a xs e => keep_lst hl a _ e fun ys z => by cases z) (fun a φ e => keep_lst hl a _ e fun ys z => by cases z) fun a dx vals e _ => keep_lst hl a _ e fun ys z => by cases z
theorem PosAt.lst {c : Addr} {H : Hp} {x l : Addr} {p : Vbbraf.Pos} {xs : List V} {o : HO} (h : PosAt c H x p) (hl : H l = some (.lst xs)) : PosAt c (upd H l o) x p :=
  h.imp (fun a xs e => keep_lst hl a _ e fun ys z => by cases z) fun a dx vals e _ => keep_lst hl a _ e fun ys z => by cases z
theorem knO_ext {w : World} {d : Addr} {kn : List Ent} : ¬ NoExt (knO w d kn) := fun z => z
theorem kp_kn {H : Hp} {w : World} {d : Addr} {kn kn' : List Ent} (h : H d = some (knO w d kn)) : Kp H (upd H d (knO w d kn')) := fun b u e n => by
  have : b ≠ d := fun z => by
    rw [z, h] at e
    rw [← Option.some.inj e] at n
    exact n
  rw [upd_ne this]
  exact e
theorem subs_small {D : List (List Nat)} (S : ∀ d ∈ D, d.length ≤ 4) : ∀ {hs : List (List Nat)}, Subs hs D → ∀ s, (hs.getD s []).length ≤ 4 := by
  induction D with
  | nil =>
    intro hs h s
    match hs, h with
    | [], _ => simp
  | cons d ds ih =>
    intro hs h s
    match hs, h with
    | x :: xs, h =>
      cases s with
      | zero => exact Nat.le_trans h.1.length_le (S d List.mem_cons_self)
      | succ s => exact ih (fun y hy => S y (List.mem_cons_of_mem _ hy)) h.2 s
theorem Inside.small {D : List (List Nat)} {p : Vbbraf.Pos} (S : Small D) (I : Inside D p) (s : Nat) : (handOf p s).length ≤ 4 := subs_small S.le I.subs s
theorem legal_len (p : Vbbraf.Pos) : (legal p).length ≤ (handOf p (turnOf p)).length := by
  unfold legal
  dsimp only
  split
  · exact Nat.le_refl _
  · split
    · exact Nat.le_refl _
    · exact List.length_filter_le _ _
end Lt
/-! # LtV: the valuer's methods -/
namespace Lt
open PySem PySem.Spec PyProof.Rows L2
open Vbbraf (handOf turnOf held toCome legal value valueBy behind gained gift keeps line)
section
variable {P : Program} {w : World} {K : PySem.W.Frag} {mg : Str → Option Value} {base : Heap} {a : Ads}
/-- Valuer() -/
def sp_Valuer (c : Addr) (w : World) : Sp := fun vs H Q _ => vs.length = 1 ∧ ∃ v dx, vs = [.ref v] ∧ H v = some (.ins c dx []) ∧ ∀ d, H d = none → Q .non (upd (upd H d (knO w d [])) v (.ins c dx (nV.zip [.ref d])))
theorem ok_Valuer (D : DnK K mg "Valuer" a.V "Valuer.__init__" s_Valuer_init) (T : Txt K mg a) : MkA P w K mg base 1 "Valuer" a.V (sp_Valuer a.V w) := by
  refine D.ok sc_Valuer_init (fun _ _ _ _ _ _ us hl => match us, hl with | [_], _ => rfl) (fun _ _ _ _ h => h.1) fun f cdv A outer s H vs Q E hr h => ⟨_, (pss_one (ps_fNew 0 T.kV (pv 0) pe_knNew)), ?_⟩
  obtain ⟨_, v, dx, rfl, hv, q⟩ := h
  intro d hd
  exact ⟨_, rfl, v, dx, [], rfl, (by rw [upd_ne (ne_of_none hv hd)]; exact hv), rfl, q d hd⟩
/-- .. as it is used -/
theorem use_Valuer {c : Addr} {w : World} {H : Hp} {Q : VK} (D : List (List Nat)) (q : ∀ v dx d H', H v = none → H dx = none → H d = none → d ≠ v → Same H H' → H' v = some (.ins c dx (nV.zip [.ref d])) → H' d = some (knO w d []) → ValAt c w D H' v → Q (.ref v) H') :
    ∀ v dx, H v = none → H dx = none → dx ≠ v → sp_Valuer c w [.ref v] (upd (upd H dx (.own v)) v (.ins c dx [])) (fun y H2 => y = .non ∧ Q (.ref v) H2) E0 := fun v dx hv hdx ne => by
  refine ⟨rfl, v, dx, rfl, upd_same, fun d hd => ⟨rfl, ?_⟩⟩
  have hdv : d ≠ v := fun z => by rw [z, upd_same] at hd; cases hd
  have hd' : H d = none := by
    by_cases z : d = dx
    · rw [z]; exact hdx
    · rw [upd_ne hdv, upd_ne z] at hd; exact hd
  have e1 : (upd (upd (upd (upd H dx (.own v)) v (.ins c dx [])) d (knO w d [])) v (.ins c dx (nV.zip [.ref d]))) v = some (.ins c dx (nV.zip [.ref d])) := upd_same
  have e2 : (upd (upd (upd (upd H dx (.own v)) v (.ins c dx [])) d (knO w d [])) v (.ins c dx (nV.zip [.ref d]))) d = some (knO w d []) := by rw [upd_ne hdv, upd_same]
  refine q v dx d _ hv hdx hd' hdv (fun b o e => ?_) e1 e2 ⟨dx, d, [], e1, e2, KnOk.nil⟩
  rw [upd_ne (ne_of_none e hv), upd_ne (ne_of_none e hd'), upd_ne (ne_of_none e hv), upd_ne (ne_of_none e hdx)]
  exact e
/-- what every method of the valuer asks: the valuer at v, the position at x -/
structure At (a : Ads) (w : World) (H : Hp) (v x : Addr) (p : Vbbraf.Pos) (D : List (List Nat)) : Prop where
  pos : PosAt a.P H x p
  val : ValAt a.V w D H v
  fine : Fine p
  ins : Inside D p
  small : Small D
theorem At.four {a : Ads} {w : World} {H : Hp} {v x : Addr} {p : Vbbraf.Pos} {D : List (List Nat)} (h : At a w H v x p D) : (handOf p (turnOf p)).length ≤ 4 := h.ins.small h.small _
theorem At.hund {a : Ads} {w : World} {H : Hp} {v x : Addr} {p : Vbbraf.Pos} {D : List (List Nat)} (h : At a w H v x p D) : (handOf p (turnOf p)).length ≤ 100 := Nat.le_trans h.four (by decide)
theorem At.same {a : Ads} {w : World} {H H' : Hp} {v x : Addr} {p : Vbbraf.Pos} {D : List (List Nat)} (s : Same H H') (h : At a w H v x p D) : At a w H' v x p D := ⟨h.pos.same s, h.val.same s, h.fine, h.ins, h.small⟩
theorem At.kp {a : Ads} {w : World} {H H' : Hp} {v x : Addr} {p : Vbbraf.Pos} {D : List (List Nat)} (k : Kp H H') (hv : ValAt a.V w D H' v) (h : At a w H v x p D) : At a w H' v x p D := ⟨h.pos.kp k, hv, h.fine, h.ins, h.small⟩
def sp_value (a : Ads) (w : World) (n : Nat) : Sp := fun vs H Q _ => vs.length = 2 ∧ ∃ v x p D, vs = [.ref v, .ref x] ∧ At a w H v x p D ∧ held p < n ∧ ∀ H', Kp H H' → ValAt a.V w D H' v → Q (.int (value p : Nat)) H'
def sp_best (a : Ads) (w : World) (n : Nat) : Sp := fun vs H Q _ => vs.length = 2 ∧ ∃ v x p D, vs = [.ref v, .ref x] ∧ At a w H v x p D ∧ 0 < held p ∧ held p < n ∧ ∀ H', Kp H H' → ValAt a.V w D H' v → Q (.int (value p : Nat)) H'
def sp_by (a : Ads) (w : World) (n : Nat) : Sp := fun vs H Q _ => vs.length = 3 ∧ ∃ v x p D c, vs = [.ref v, .ref x, .int ((c : Nat) : Int)] ∧ At a w H v x p D ∧ c ∈ legal p ∧ held p < n ∧ ∀ H', Kp H H' → ValAt a.V w D H' v → Q (.int (valueBy p c : Nat)) H'
theorem ok_by {n : Nat} (D : DnM K a.V "value_by" "Valuer.value_by" s_Valuer_value_by) (T : Txt K mg a) (F_tricks_of_side_0 : FnA P w K mg base CX0 5 "tricks_of_side_0" (sp_tricks0 a)) (F_position_after : FnA P w K mg base CX0 4 "position_after" (sp_position_after a))
    (M_value : MtA P w K mg base (3 * n + 6) a.V "value" (sp_value a w n)) : MtA P w K mg base (3 * n + 6 + 1) a.V "value_by" (sp_by a w (n + 1)) := by
  refine D.ok sc_Valuer_value_by (fun _ _ _ _ _ _ us hl => match us, hl with | [_, _, _], _ => rfl) (fun _ _ _ _ h => h.1) fun f cdv A outer s H vs Q E hr h => ⟨_, (pss_one (ps_ret (pe_op op_add (pc F_tricks_of_side_0 hr (by omega) (pa_cons (pv 1) (pa_cons (pv 2) pa_nil))) (pm (names := nV) M_value hr (by omega) (by decide) (pv 0) (pa_cons (pc F_position_after hr (by omega) (pa_cons (pv 1) (pa_cons (pv 2) pa_nil))) pa_nil))))), ?_⟩
  obtain ⟨_, v, x, p, D, c, rfl, h, hc, hn, q⟩ := h
  refine ⟨_, rfl, _, rfl, rfl, x, p, c, rfl, h.pos, h.fine.tk, fun H1 s1 => ?_⟩
  have h1 := h.same s1
  obtain ⟨dx, d, kn, e1, e2, e3⟩ := id h1.val
  refine ⟨_, rfl, v, dx, _, rfl, e1, _, rfl, _, rfl, rfl, x, p, c, rfl, h1.pos, h.fine.n4, h.hund, h.fine.tk, fun y H2 s2 a2 => ?_⟩
  obtain ⟨F', hh⟩ := h.fine.behind (legal_sub hc)
  refine ⟨rfl, v, y, (behind p c).1, D, rfl, ⟨a2, h1.val.same s2, F', h.ins.behind h.fine c, h.small⟩, by omega, fun H3 k3 v3 => ?_⟩
  refine ⟨_, _, rfl, rfl, ?_⟩
  have e : ((gained (behind p c).2 : Nat) : Int) + ((value (behind p c).1 : Nat) : Int) = ((valueBy p c : Nat) : Int) := by
    unfold valueBy
    dsimp only
    omega
  show Q (.int (((gained (behind p c).2 : Nat) : Int) + ((value (behind p c).1 : Nat) : Int))) H3
  rw [e]
  exact q H3 ((Kp.of (s1.trans s2)).trans k3) v3
theorem ok_best {n : Nat} (D : DnM K a.V "best_value" "Valuer.best_value" s_Valuer_best_value) (T : Txt K mg a) (F_playable : FnA P w K mg base CX0 3 "playable" (sp_playable a)) (F_side_of : FnA P w K mg base CX0 1 "side_of" sp_side_of) (F_seat_on_turn : FnA P w K mg base CX0 1 "seat_on_turn" (sp_seat_on_turn a))
    (M_value_by : MtA P w K mg base (3 * n + 6 + 1) a.V "value_by" (sp_by a w (n + 1))) : MtA P w K mg base (3 * n + 6 + 2) a.V "best_value" (sp_best a w (n + 1)) := by
  refine D.ok sc_Valuer_best_value (fun _ _ _ _ _ _ us hl => match us, hl with | [_, _], _ => rfl) (fun _ _ _ _ h => h.1) fun f cdv A outer s H vs Q E hr h => ⟨_, (pss_cons (ps_setLc (i := 2) (own := [("card", 3)]) (g := gName 3) rfl sc_Valuer_best_value.nd rfl rfl (sw_true rfl rfl rfl (by decide +kernel)) (pi_tup (pc F_playable hr (by omega) (pa_cons (pv 1) pa_nil))) (blkOk_by (own := [("card", 3)]) (N := N_Valuer_best_value) (sc := defScope s_Valuer_best_value) (by decide +kernel)) (fun _ _ _ _ _ => pg_name (i := 3) sc_Valuer_best_value.nd rfl (Or.inl rfl)) (fun _ _ _ _ _ => pts_nil) (fun _ _ _ _ _ => (pm (names := nV) M_value_by hr (by omega) (by decide) (pv 0) (pa_cons (pv 1) (pa_cons (pv 3) pa_nil)))))
      (pss_cons (ps_if (pt_cmpR op_eq (pc F_side_of hr (by omega) (pa_cons (pc F_seat_on_turn hr (by omega) (pa_cons (pv 1) pa_nil)) pa_nil)) pe_int (nomark _)) (pss_one (ps_ret (pe_callB (cr_max rfl) (by rfl) T.m_max (by decide +kernel) (pa_cons (pv 2) pa_nil)))) pss_nil)
      (pss_one (ps_ret (pe_callB (cr_min rfl) (by rfl) T.m_min (by decide +kernel) (pa_cons (pv 2) pa_nil)))))), ?_⟩
  obtain ⟨_, v, x, p, D, rfl, h, h0, hn, q⟩ := h
  refine ⟨_, rfl, rfl, x, p, rfl, h.pos, h.fine.n4, h.hund, fun b H1 s1 b1 => ?_⟩
  have hl4 : (legal p).length ≤ 4 := Nat.le_trans (legal_len p) h.four
  refine ⟨b, rfl, ⟨_, SqT.of b1⟩, fun l hl => ?_⟩
  have hlH : H l = none := same_free s1 hl
  refine lc_tup (K := K) (xs := nv (legal p)) (fun i H' => Kp H1 H' ∧ ValAt a.V w D H' v ∧ H' l = some (.lst (nv (((legal p).map (valueBy p)).take i)))) ⟨Kp.of (same_new hl _), (h.val.same s1).same (same_new hl _), upd_same⟩ (fun i H' _ g => SqT.of (g.1.tup _ _ b1)) (fun i y H' hi g => ?_) (fun H' g => ?_)
  · obtain ⟨c, hc, rfl⟩ := of_nv hi
    obtain ⟨g1, g2, g3⟩ := g
    obtain ⟨dx, d, kn, e1, e2, e3⟩ := id g2
    have hm := List.mem_of_getElem? hc
    refine ⟨rfl, _, rfl, v, dx, _, rfl, e1, _, rfl, _, rfl, rfl, v, x, p, D, c, rfl, h.kp ((Kp.of s1).trans g1) g2, hm, hn, fun H2 k2 v2 => ?_⟩
    have l2 := k2 _ _ g3 trivial
    refine ⟨_, l2, ?_, kp_new hl (g1.trans k2), v2.lst l2, ?_⟩
    · rw [nv_len, List.length_take, List.length_map]
      exact szl _ (by omega)
    · rw [upd_same, take_more (x := valueBy p c) (by rw [List.getElem?_map, hc]; rfl), nv_app]
      rfl
  · obtain ⟨g1, g2, g3⟩ := g
    rw [nv_len] at g3
    have e0 : ((legal p).map (valueBy p)).take (legal p).length = (legal p).map (valueBy p) := by
      rw [← List.length_map (valueBy p) (as := legal p), List.take_length]
    rw [e0, nv_ints] at g3
    have hp' := h.pos.kp ((Kp.of s1).trans g1)
    refine ⟨_, rfl, rfl, x, p, rfl, hp', rfl, turnOf p, rfl, rfl, _, rfl, ?_⟩
    rw [dint]
    have fin := q H' ((Kp.of s1).trans g1) g2
    have pos : 0 < (((legal p).map (valueBy p)).map fun (n : Nat) => (n : Int)).length := by
      rw [List.length_map, List.length_map]
      exact List.length_pos_iff.mpr (legal_ne (h.fine.some h0))
    refine ite2 (fun z => ?_) (fun z => ?_)
    · obtain ⟨⟨c, hc, ec⟩, all⟩ := value_max h.fine h0 (by have := of_decide_eq_true z; omega)
      refine ⟨_, rfl, l, _, rfl, SqL.of g3, pos, fun m hm hle => ?_⟩
      have em : m = ((value p : Nat) : Int) := by
        obtain ⟨n1, h1, rfl⟩ := List.mem_map.mp hm
        obtain ⟨c1, h2, rfl⟩ := List.mem_map.mp h1
        have u1 := all c1 h2
        have u2 := hle _ (List.mem_map.mpr ⟨_, List.mem_map.mpr ⟨c, hc, rfl⟩, rfl⟩)
        omega
      rw [em]
      exact fin
    · obtain ⟨⟨c, hc, ec⟩, all⟩ := value_min h.fine h0 (fun y => z (decide_eq_true (by omega)))
      refine ⟨_, rfl, l, _, rfl, SqL.of g3, pos, fun m hm hle => ?_⟩
      have em : m = ((value p : Nat) : Int) := by
        obtain ⟨n1, h1, rfl⟩ := List.mem_map.mp hm
        obtain ⟨c1, h2, rfl⟩ := List.mem_map.mp h1
        have u1 := all c1 h2
        have u2 := hle _ (List.mem_map.mpr ⟨_, List.mem_map.mpr ⟨c, hc, rfl⟩, rfl⟩)
        omega
      rw [em]
      exact fin
theorem ok_value {n : Nat} (D : DnM K a.V "value" "Valuer.value" s_Valuer_value) (T : Txt K mg a) (F_cards_left : FnA P w K mg base CX0 1 "cards_left" (sp_cards_left a))
    (M_best_value : MtA P w K mg base (3 * n + 6 + 2) a.V "best_value" (sp_best a w (n + 1))) : MtA P w K mg base (3 * n + 6 + 3) a.V "value" (sp_value a w (n + 1)) := by
  refine D.ok sc_Valuer_value (fun _ _ _ _ _ _ us hl => match us, hl with | [_, _], _ => rfl) (fun _ _ _ _ h => h.1) fun f cdv A outer s H vs Q E hr h => ⟨_, (pss_cons (ps_if (pt_cmpR op_gt (pe_callB (cl_len (K := K)) (by rfl) T.m_len PySem.boot_len (pa_cons (pe_f 3 T.kP (pv 1)) pa_nil)) pe_int (nomark _)) (pss_one (ps_ret (pm (names := nV) M_best_value hr (by omega) (by decide) (pv 0) (pa_cons (pv 1) pa_nil)))) pss_nil)
      (pss_cons (ps_if (pt_cmpR op_eq (pc F_cards_left hr (by omega) (pa_cons (pv 1) pa_nil)) pe_int (nomark _)) (pss_one (ps_ret pe_int)) pss_nil)
      (pss_cons (ps_set (i := 2) sc_Valuer_value.nd rfl (Or.inl rfl) (pe_tup (pa_cons (pe_f 0 T.kP (pv 1)) (pa_cons (pe_f 1 T.kP (pv 1)) (pa_cons (pe_f 2 T.kP (pv 1)) pa_nil)))))
      (pss_cons (ps_if (pt_cmpR (op_knNot (hu9 hr)) (pv 2) (pe_f 0 T.kV (pv 0)) (by with_unfolding_all rfl)) (pss_one (ps_asg (pm (names := nV) M_best_value hr (by omega) (by decide) (pv 0) (pa_cons (pv 1) pa_nil)) (pg_sub (pe_f 0 T.kV (pv 0)) (pv 2) (set_kn (hu9 hr))))) pss_nil)
      (pss_one (ps_ret (pe_ix (ix_kn (hu9 hr)) (pe_f 0 T.kV (pv 0)) (pv 2) (fun _ _ => rfl)))))))), ?_⟩
  obtain ⟨_, v, x, p, D, rfl, h, hn, q⟩ := h
  obtain ⟨dx, hs, tk, h1, h2, h3⟩ := id h.pos
  obtain ⟨vx, d, kn, e1, e2, e3⟩ := id h.val
  refine ⟨_, rfl, x, dx, _, _, rfl, h1, rfl, tk, _, rfl, .inr (SqT.of h3), _, _, rfl, rfl, _, rfl, ?_⟩
  rw [nv_len]
  refine ite2 (fun z => ?_) (fun z => ?_)
  · have ne : p.trick ≠ [] := fun e => by rw [e] at z; exact absurd z (by decide)
    exact ⟨_, rfl, v, vx, _, rfl, e1, _, rfl, rfl, v, x, p, D, rfl, h, h.fine.pos ne, hn, q⟩
  have em : p.trick = [] := by
    refine List.eq_nil_of_length_eq_zero ?_
    have : ¬ (0 : Int) < ((p.trick.length : Nat) : Int) := fun y => z (decide_eq_true y)
    omega
  refine ⟨_, rfl, rfl, x, p, rfl, h.pos, h.fine.n4, fun H1 s1 => ⟨rfl, _, rfl, ?_⟩⟩
  rw [dint]
  refine ite2 (fun y => ?_) (fun y => ?_)
  · have e0 : held p = 0 := by have := of_decide_eq_true y; omega
    have fin := q H1 (Kp.of s1) (h.val.same s1)
    rw [value_zero e0] at fin
    exact fin
  have hp0 : 0 < held p := by
    have : ¬ ((held p : Nat) : Int) = 0 := fun e => y (decide_eq_true e)
    omega
  refine ⟨_, rfl, x, dx, _, _, rfl, s1 _ _ h1, rfl, _, rfl, x, dx, _, _, rfl, s1 _ _ h1, rfl, _, rfl, x, dx, _, _, rfl, s1 _ _ h1, rfl, sz 3 (by decide), fun ky hky => ?_⟩
  have s2 : Same H (upd H1 ky (.tup [.ref hs, .int (p.trump : Nat), .int (p.leader : Nat)])) := s1.trans (same_new hky _)
  have k2 : KeyAt (upd H1 ky (.tup [.ref hs, .int (p.trump : Nat), .int (p.leader : Nat)])) ky p.hands p.trump p.leader := ⟨hs, upd_same, h2.imp (Kp.of s2).tup⟩
  generalize upd H1 ky (.tup [.ref hs, .int (p.trump : Nat), .int (p.leader : Nat)]) = H2 at s2 k2 ⊢
  have ev : value ⟨p.hands, p.trump, p.leader, []⟩ = value p := by rw [← em]
  have o2 := e3.imp (Kp.of s2).tup
  refine ⟨_, rfl, _, rfl, v, vx, _, _, rfl, s2 _ _ e1, rfl, ky, d, kn, keyOf p.hands p.trump p.leader, rfl, rfl, s2 _ _ e2, o2.kis, ⟨_, _, _, rfl, k2⟩, _, rfl, ?_⟩
  have fin : ∀ H3 kn3 d3 vx3, Kp H2 H3 → H3 v = some (.ins a.V vx3 (nV.zip [.ref d3])) → H3 d3 = some (knO w d3 kn3) → KnOk D H3 kn3 → keyOf p.hands p.trump p.leader ∈ kn3.map (·.1) →
      (∃ v' : V, (some (.ref v) : Option V) = some v' ∧ ∃ a' dx' vals v2, v' = .ref a' ∧ H3 a' = some (.ins a.V dx' (nV.zip vals)) ∧ vals[0]? = some v2 ∧ ∃ v4 : V, (some (.ref ky) : Option V) = some v4 ∧ rKnGet w v2 v4 H3 Q) := fun H3 kn3 d3 vx3 k3 f1 f2 f3 f4 => by
    refine ⟨_, rfl, v, vx3, _, _, rfl, f1, rfl, _, rfl, ky, d3, kn3, keyOf p.hands p.trump p.leader, ((value p : Nat) : Int), rfl, rfl, f2, f3.kis, ⟨_, _, _, rfl, k2.imp k3.tup⟩, f4, fun b m hm => ?_, ?_⟩
    · rw [← ev]; exact f3.look b m hm
    · exact q H3 ((Kp.of s2).trans k3) ⟨vx3, d3, kn3, f1, f2, f3⟩
  by_cases c : keyOf p.hands p.trump p.leader ∈ kn.map (·.1)
  · refine if_f (by rw [decide_eq_true c]; rfl) ?_
    obtain ⟨_, e5, g1, g2, g3, g4, g5, g6, g7, v5, e6, g8⟩ := fin H2 kn d vx (Kp.refl _) (s2 _ _ e1) (s2 _ _ e2) o2 c
    cases e5
    cases e6
    exact ⟨_, rfl, g1, g2, g3, g4, g5, g6, g7, _, rfl, g8⟩
  · refine if_t (by rw [decide_eq_false c]; rfl) ?_
    refine ⟨_, rfl, v, vx, _, rfl, s2 _ _ e1, _, rfl, rfl, v, x, p, D, rfl, h.same s2, hp0, hn, fun H3 k3 v3 => ?_⟩
    obtain ⟨vx3, d3, kn3, f1, f2, f3⟩ := v3
    have key3 := k2.imp k3.tup
    refine ⟨_, rfl, v, vx3, _, _, rfl, f1, rfl, _, rfl, ky, d3, kn3, keyOf p.hands p.trump p.leader, ((value p : Nat) : Int), rfl, rfl, rfl, f2, f3.kis, ⟨_, _, _, rfl, key3⟩, f3.few h.small, ?_⟩
    have k4 : Kp H3 (upd H3 d3 (knO w d3 (stK kn3 (keyOf p.hands p.trump p.leader) ky ((value p : Nat) : Int)))) := kp_kn f2
    have o4 : KnOk D (upd H3 d3 (knO w d3 (stK kn3 (keyOf p.hands p.trump p.leader) ky ((value p : Nat) : Int)))) (stK kn3 (keyOf p.hands p.trump p.leader) ky ((value p : Nat) : Int)) := by
      have z := (f3.imp k4.tup).store (key3.imp k4.tup) h.ins.subs h.ins.tr h.ins.ld
      rw [ev] at z
      exact z
    obtain ⟨_, e5, g1, g2, g3, g4, g5, g6, g7, v5, e6, g8⟩ := fin _ _ d3 vx3 (k3.trans k4) (k4 _ _ f1 trivial) upd_same o4 (stK_has _ _ _ _)
    cases e5
    cases e6
    exact ⟨_, rfl, g1, g2, g3, g4, g5, g6, g7, _, rfl, g8⟩
/-- nothing is asked of no cards at all -/
theorem value_none (D : DnM K a.V "value" "Valuer.value" s_Valuer_value) (k : Nat) : MtA P w K mg base k a.V "value" (sp_value a w 0) := by
  obtain ⟨f, fd, c, hm, F⟩ := D.ex
  have no : ∀ vs H Q E, ¬ sp_value a w 0 vs H Q E := fun vs H Q E h => by
    obtain ⟨_, v, x, p, D, _, _, hn, _⟩ := h
    omega
  exact ⟨f, fd, ["self", "position"], c, hm, ⟨fun vs H Q E h => absurd h (no vs H Q E), fun A outer s H args us vs Q E _ _ _ _ h => absurd h (no vs H Q E)⟩, F.binds (fun _ _ _ _ _ _ us hl => match us, hl with | [_, _], _ => rfl)⟩
structure Vals3 (P : Program) (w : World) (K : PySem.W.Frag) (mg : Str → Option Value) (base : Heap) (a : Ads) (n : Nat) : Prop where
  val : MtA P w K mg base (3 * n + 6) a.V "value" (sp_value a w n)
theorem vals_all (D1 : DnM K a.V "value" "Valuer.value" s_Valuer_value) (D2 : DnM K a.V "best_value" "Valuer.best_value" s_Valuer_best_value) (D3 : DnM K a.V "value_by" "Valuer.value_by" s_Valuer_value_by) (T : Txt K mg a)
    (F_playable : FnA P w K mg base CX0 3 "playable" (sp_playable a)) (F_side_of : FnA P w K mg base CX0 1 "side_of" sp_side_of) (F_seat_on_turn : FnA P w K mg base CX0 1 "seat_on_turn" (sp_seat_on_turn a)) (F_cards_left : FnA P w K mg base CX0 1 "cards_left" (sp_cards_left a))
    (F_tricks_of_side_0 : FnA P w K mg base CX0 5 "tricks_of_side_0" (sp_tricks0 a)) (F_position_after : FnA P w K mg base CX0 4 "position_after" (sp_position_after a)) : ∀ n, MtA P w K mg base (3 * n + 6) a.V "value" (sp_value a w n)
  | 0 => value_none D1 _
  | n + 1 => by
    have v := vals_all D1 D2 D3 T F_playable F_side_of F_seat_on_turn F_cards_left F_tricks_of_side_0 F_position_after n
    exact ok_value D1 T F_cards_left (ok_best D2 T F_playable F_side_of F_seat_on_turn (ok_by D3 T F_tricks_of_side_0 F_position_after v))
end
end Lt
/-! # LtF: from the facts that k_is finds to the bundles -/
namespace Lt
open PySem PySem.Spec PyProof.Rows L2
section
variable {K : PySem.W.Frag} {h : Heap} {mg : Str → Option Value}
theorem dn_mk {x : Str} {st : Stmt} {f : Addr} {oc kV dc pm cd ct : Value} {od an : Option Addr} {sl : Array (Option Value)} (X : K.In h) (G : h.Ns mainGlobals mg) (a1 : PySem.W.nsIn K mainGlobals x = some (some (.ref f)))
    (l1 : K.lookup f = some ⟨oc, od, .func (PySem.W.fnOf x x (defArgs st) (defBody st) (defScope st) .none kV dc pm an cd ct), sl⟩) (c1 : PySem.W.codeIn K cd x = true) (k1 : PySem.W.keepIn K (.ref f) = true) : Dn K mg x st :=
  ⟨f, _, fun_mk (st := st) l1 c1 k1, PySem.W.mg_of X G a1⟩
theorem dnm_mk {C : Addr} {m qual : Str} {st : Stmt} {f : Addr} {oc kV dc pm cd ct : Value} {od an : Option Addr} {sl : Array (Option Value)} (c : Cls K C) (a1 : PySem.W.findIn K (.ref C) m = some (some (.ref f))) (i1 : PySem.W.isFn K (.ref f) = true)
    (l1 : K.lookup f = some ⟨oc, od, .func (PySem.W.fnOf m qual (defArgs st) (defBody st) (defScope st) .none kV dc pm an cd ct), sl⟩) (c1 : PySem.W.codeIn K cd qual = true) (k1 : PySem.W.keepIn K (.ref f) = true) : DnM K C m qual st :=
  ⟨f, _, c, ⟨a1, i1, k1⟩, fun_mk (st := st) l1 c1 k1⟩
theorem dnk_mk {C : Addr} {x qual : Str} {st : Stmt} {f : Addr} {oc kV dc pm cd ct : Value} {od an : Option Addr} {sl : Array (Option Value)} (X : K.In h) (G : h.Ns mainGlobals mg) (a0 : PySem.W.nsIn K mainGlobals x = some (some (.ref C))) (mk : PySem.W.makesIn K C = true) (kc : PySem.W.keepIn K (.ref C) = true)
    (a1 : PySem.W.findIn K (.ref C) "__init__" = some (some (.ref f))) (i1 : PySem.W.isFn K (.ref f) = true)
    (l1 : K.lookup f = some ⟨oc, od, .func (PySem.W.fnOf "__init__" qual (defArgs st) (defBody st) (defScope st) .none kV dc pm an cd ct), sl⟩) (c1 : PySem.W.codeIn K cd qual = true) (k1 : PySem.W.keepIn K (.ref f) = true) : DnK K mg x C qual st :=
  ⟨f, _, ⟨mk, a1, i1, kc⟩, PySem.W.mg_of X G a0, fun_mk (st := st) l1 c1 k1⟩
theorem gi_mk {x : Str} {n : Int} {t : Tok} (X : K.In h) (G : h.Ns mainGlobals mg) (a1 : PySem.W.nsIn K mainGlobals x = some (some (.int n t))) : GI mg x n := ⟨t, PySem.W.mg_of X G a1⟩
theorem gt4_mk {x : Str} {b : Addr} {od : Option Addr} {n : Nat} {sl : Array (Option Value)} {i0 i1 i2 i3 : Int} {t0 t1 t2 t3 : Tok} (X : K.In h) (G : h.Ns mainGlobals mg) (a1 : PySem.W.nsIn K mainGlobals x = some (some (.ref b)))
    (l1 : K.lookup b = some ⟨.type "tuple", od, .seq #[.int i0 t0, .int i1 t1, .int i2 t2, .int i3 t3] n, sl⟩) : GT K mg x [.int i0, .int i1, .int i2, .int i3] :=
  ⟨b, PySem.W.mg_of X G a1, _, _, _, l1, rfl, rfl, by rw [sizeLine_eq]; show 4 ≤ 16777216; decide, .cons ⟨_, rfl⟩ (.cons ⟨_, rfl⟩ (.cons ⟨_, rfl⟩ (.cons ⟨_, rfl⟩ .nil)))⟩
theorem gt14_mk {x : Str} {b : Addr} {od : Option Addr} {n : Nat} {sl : Array (Option Value)} {i0 i1 i2 i3 i4 i5 i6 i7 i8 i9 i10 i11 i12 i13 : Int} {t0 t1 t2 t3 t4 t5 t6 t7 t8 t9 t10 t11 t12 t13 : Tok} (X : K.In h) (G : h.Ns mainGlobals mg) (a1 : PySem.W.nsIn K mainGlobals x = some (some (.ref b)))
    (l1 : K.lookup b = some ⟨.type "tuple", od, .seq #[.int i0 t0, .int i1 t1, .int i2 t2, .int i3 t3, .int i4 t4, .int i5 t5, .int i6 t6, .int i7 t7, .int i8 t8, .int i9 t9, .int i10 t10, .int i11 t11, .int i12 t12, .int i13 t13] n, sl⟩) :
    GT K mg x [.int i0, .int i1, .int i2, .int i3, .int i4, .int i5, .int i6, .int i7, .int i8, .int i9, .int i10, .int i11, .int i12, .int i13] :=
  ⟨b, PySem.W.mg_of X G a1, _, _, _, l1, rfl, rfl, by rw [sizeLine_eq]; show 14 ≤ 16777216; decide, .cons ⟨_, rfl⟩ (.cons ⟨_, rfl⟩ (.cons ⟨_, rfl⟩ (.cons ⟨_, rfl⟩ (.cons ⟨_, rfl⟩ (.cons ⟨_, rfl⟩ (.cons ⟨_, rfl⟩ (.cons ⟨_, rfl⟩ (.cons ⟨_, rfl⟩ (.cons ⟨_, rfl⟩ (.cons ⟨_, rfl⟩ (.cons ⟨_, rfl⟩ (.cons ⟨_, rfl⟩ (.cons ⟨_, rfl⟩ .nil)))))))))))))⟩
theorem cls_mk {C : Addr} (pg : PySem.W.plainGet K C Str.empty = true) (hd : PySem.W.hasDictIn K C = true) (po : PySem.W.plainOver K C = true) (sa : PySem.W.findIn K (.ref C) "__setattr__" = some (some (.builtin "object.__setattr__"))) : Cls K C := ⟨pg, hd, po, sa⟩
theorem kl1_mk {C : Addr} {n1 : Str} (c : Cls K C) (h1 : PySem.W.findIn K (.ref C) n1 = some none) : Kl K C [n1] :=
  ⟨c, fun f hf => by
    have : f = n1 := by simpa using hf
    rw [this]; exact h1, by simp, (by show 1 ≤ 100; decide)⟩
theorem kl2_mk {C : Addr} {n1 n2 : Str} (c : Cls K C) (h1 : PySem.W.findIn K (.ref C) n1 = some none) (h2 : PySem.W.findIn K (.ref C) n2 = some none) (nd : [n1, n2].Nodup := by decide) : Kl K C [n1, n2] :=
  ⟨c, fun f hf => by
    have : f = n1 ∨ f = n2 := by simpa using hf
    rcases this with z | z <;> rw [z]
    · exact h1
    · exact h2, nd, (by show 2 ≤ 100; decide)⟩
theorem kl3_mk {C : Addr} {n1 n2 n3 : Str} (c : Cls K C) (h1 : PySem.W.findIn K (.ref C) n1 = some none) (h2 : PySem.W.findIn K (.ref C) n2 = some none) (h3 : PySem.W.findIn K (.ref C) n3 = some none) (nd : [n1, n2, n3].Nodup := by decide) : Kl K C [n1, n2, n3] :=
  ⟨c, fun f hf => by
    have : f = n1 ∨ f = n2 ∨ f = n3 := by simpa using hf
    rcases this with z | z | z <;> rw [z]
    · exact h1
    · exact h2
    · exact h3, nd, (by show 3 ≤ 100; decide)⟩
theorem kl4_mk {C : Addr} {n1 n2 n3 n4 : Str} (c : Cls K C) (h1 : PySem.W.findIn K (.ref C) n1 = some none) (h2 : PySem.W.findIn K (.ref C) n2 = some none) (h3 : PySem.W.findIn K (.ref C) n3 = some none) (h4 : PySem.W.findIn K (.ref C) n4 = some none) (nd : [n1, n2, n3, n4].Nodup := by decide) : Kl K C [n1, n2, n3, n4] :=
  ⟨c, fun f hf => by
    have : f = n1 ∨ f = n2 ∨ f = n3 ∨ f = n4 := by simpa using hf
    rcases this with z | z | z | z <;> rw [z]
    · exact h1
    · exact h2
    · exact h3
    · exact h4, nd, (by show 4 ≤ 100; decide)⟩
theorem kl5_mk {C : Addr} {n1 n2 n3 n4 n5 : Str} (c : Cls K C) (h1 : PySem.W.findIn K (.ref C) n1 = some none) (h2 : PySem.W.findIn K (.ref C) n2 = some none) (h3 : PySem.W.findIn K (.ref C) n3 = some none) (h4 : PySem.W.findIn K (.ref C) n4 = some none) (h5 : PySem.W.findIn K (.ref C) n5 = some none) (nd : [n1, n2, n3, n4, n5].Nodup := by decide) : Kl K C [n1, n2, n3, n4, n5] :=
  ⟨c, fun f hf => by
    have : f = n1 ∨ f = n2 ∨ f = n3 ∨ f = n4 ∨ f = n5 := by simpa using hf
    rcases this with z | z | z | z | z <;> rw [z]
    · exact h1
    · exact h2
    · exact h3
    · exact h4
    · exact h5, nd, (by show 5 ≤ 100; decide)⟩
/-- an error of the class at C is what «except C» names -/
theorem exm_self {C : Addr} (h1 : PySem.W.subIn K (.ref C) (.type "BaseException") = some true) (h2 : PySem.W.isClsIn K C = true) (h3 : PySem.W.typeIn K (.ref C) = some (.type "type")) (h4 : PySem.W.subIn K (.ref C) (.ref C) = some true) :
    PySem.W.exmOne K (.ref C) (.ref C) = some true := by
  have e1 : (PySem.W.subIn K (.ref C) (.type "BaseException") == some true) = true := by rw [h1] <;> rfl
  have e2 : ((PySem.W.clsIn K C).isSome && PySem.W.typeIn K (.ref C) == some (.type "type")) = true := by
    have h2' : (PySem.W.clsIn K C).isSome = true := h2
    rw [h2', h3] <;> rfl
  show (if (PySem.W.subIn K (.ref C) (.type "BaseException") == some true) = true then (if ((PySem.W.clsIn K C).isSome && PySem.W.typeIn K (.ref C) == some (.type "type")) = true then PySem.W.subIn K (.ref C) (.ref C) else none) else none) = some true
  rw [if_pos e1, if_pos e2]
  exact h4
/-- the error's class and its __init__ -/
structure DnR (K : PySem.W.Frag) (C : Addr) (st : Stmt) : Prop where
  ex : ∃ (f : Addr) (fd : FuncData), PySem.W.findIn K (.ref C) "__init__" = some (some (.ref f)) ∧ PySem.W.typeIn K (.ref f) = some (.type "function") ∧ Fun K "__init__" "Refused.__init__" st f fd
theorem dnr_mk {C : Addr} {st : Stmt} {f : Addr} {oc kV dc pm cd ct : Value} {od an : Option Addr} {sl : Array (Option Value)} (a1 : PySem.W.findIn K (.ref C) "__init__" = some (some (.ref f))) (t1 : PySem.W.typeIn K (.ref f) = some (.type "function"))
    (l1 : K.lookup f = some ⟨oc, od, .func (PySem.W.fnOf "__init__" "Refused.__init__" (defArgs st) (defBody st) (defScope st) .none kV dc pm an cd ct), sl⟩) (c1 : PySem.W.codeIn K cd "Refused.__init__" = true) (k1 : PySem.W.keepIn K (.ref f) = true) : DnR K C st :=
  ⟨f, _, a1, t1, fun_mk (st := st) l1 c1 k1⟩
theorem ref_mk {C : Addr} {nm q : Str} {N : Addr} {bs : List Value} {sn : List Str} {sub : List Value} {ab : Bool} {col : Option Bool} {dd : Option Addr} {m0 m1 m2 m3 m5 : Option Value}
    (xL : K.lookup C = some (excClassObj nm q C N bs [.type "Exception", .type "BaseException", .type "object"] true sn sub ab col dd m0 m1 m2 m3 m5 "Exception.__new__"))
    (sa : PySem.W.findIn K (.ref C) "__setattr__" = some (some (.builtin "object.__setattr__"))) (eC : PySem.W.subIn K (.ref C) (.type "BaseException") = some true) (tC : PySem.W.typeIn K (.ref C) = some (.type "type")) (kC : PySem.W.keepIn K (.ref C) = true) : RefC K C :=
  ⟨⟨nm, q, N, bs, sn, sub, ab, col, dd, m0, m1, m2, m3, m5, xL⟩, sa, eC, tC, kC⟩
end
structure Facts (K : PySem.W.Frag) (mg : Str → Option Value) (a : Ads) : Prop where
  T : Txt K mg a
  R : DnR K a.R s_Refused_init
  d_allow : Dn K mg "allow" s_allow
  d_Position_init : DnK K mg "Position" a.P "Position.__init__" s_Position_init
  d_suit_of : Dn K mg "suit_of" s_suit_of
  d_side_of : Dn K mg "side_of" s_side_of
  d_seat_on_turn : Dn K mg "seat_on_turn" s_seat_on_turn
  d_hand_on_turn : Dn K mg "hand_on_turn" s_hand_on_turn
  d_playable : Dn K mg "playable" s_playable
  d_cards_left : Dn K mg "cards_left" s_cards_left
  d_tricks_left : Dn K mg "tricks_left" s_tricks_left
  d_beats : Dn K mg "beats" s_beats
  d_winning_seat : Dn K mg "winning_seat" s_winning_seat
  d_hands_without : Dn K mg "hands_without" s_hands_without
  d_position_after : Dn K mg "position_after" s_position_after
  d_side_of_trick : Dn K mg "side_of_trick" s_side_of_trick
  d_tricks_of_side_0 : Dn K mg "tricks_of_side_0" s_tricks_of_side_0
  d_Valuer_init : DnK K mg "Valuer" a.V "Valuer.__init__" s_Valuer_init
  d_Valuer_value : DnM K a.V "value" "Valuer.value" s_Valuer_value
  d_Valuer_value_by : DnM K a.V "value_by" "Valuer.value_by" s_Valuer_value_by
  d_Valuer_best_value : DnM K a.V "best_value" "Valuer.best_value" s_Valuer_best_value
  d_Valuer_gift : DnM K a.V "gift" "Valuer.gift" s_Valuer_gift
  d_Valuer_least_keeping : DnM K a.V "least_keeping" "Valuer.least_keeping" s_Valuer_least_keeping
  d_Valuer_best_line : DnM K a.V "best_line" "Valuer.best_line" s_Valuer_best_line
  d_Account_init : DnK K mg "Account" a.A "Account.__init__" s_Account_init
  d_Account_as_numbers : DnM K a.A "as_numbers" "Account.as_numbers" s_Account_as_numbers
  d_account_of : Dn K mg "account_of" s_account_of
  d_State_init : DnK K mg "State" a.S "State.__init__" s_State_init
  d_Ending_init : DnK K mg "Ending" a.E "Ending.__init__" s_Ending_init
  d_Ending_dealt : DnM K a.E "dealt" "Ending.dealt" s_Ending_dealt
  d_Ending_present : DnM K a.E "present" "Ending.present" s_Ending_present
  d_Ending_won_now : DnM K a.E "won_now" "Ending.won_now" s_Ending_won_now
  d_allow_card : Dn K mg "allow_card" s_allow_card
  d_allow_cards : Dn K mg "allow_cards" s_allow_cards
  d_told_cards : Dn K mg "told_cards" s_told_cards
  d_turn_numbers : Dn K mg "turn_numbers" s_turn_numbers
  d_are_unlike : Dn K mg "are_unlike" s_are_unlike
  d_deal : Dn K mg "deal" s_deal
  d_won_after : Dn K mg "won_after" s_won_after
  d_play : Dn K mg "play" s_play
  d_back : Dn K mg "back" s_back
  d_turn : Dn K mg "turn" s_turn
  d_value : Dn K mg "value" s_value
  d_cards_with_values : Dn K mg "cards_with_values" s_cards_with_values
  d_line : Dn K mg "line" s_line
  d_account : Dn K mg "account" s_account
  d_past : Dn K mg "past" s_past
  d_table : Dn K mg "table" s_table
  d_cards_elsewhere : Dn K mg "cards_elsewhere" s_cards_elsewhere
  d_is_one_between : Dn K mg "is_one_between" s_is_one_between
  d_alike : Dn K mg "alike" s_alike
  d_squeezed_card : Dn K mg "squeezed_card" s_squeezed_card
  d_squeezed : Dn K mg "squeezed" s_squeezed
  d_truth : Dn K mg "truth" s_truth
  d_can : Dn K mg "can" s_can
  d_told : Dn K mg "told" s_told
  d_Call_init : DnK K mg "Call" a.C "Call.__init__" s_Call_init
  d_calls_of : Dn K mg "calls_of" s_calls_of
  d_answer_with_arguments : Dn K mg "answer_with_arguments" s_answer_with_arguments
  d_answer_without_arguments : Dn K mg "answer_without_arguments" s_answer_without_arguments
  d_answer : Dn K mg "answer" s_answer
  d_answers : Dn K mg "answers" s_answers
theorem facts_mk {K : PySem.W.Frag} {mg : Str → Option Value} {R P V A S E C : Addr} (aR : PySem.W.nsIn K mainGlobals "Refused" = some (some (.ref R))) (aP : PySem.W.nsIn K mainGlobals "Position" = some (some (.ref P))) (aV : PySem.W.nsIn K mainGlobals "Valuer" = some (some (.ref V))) (aA : PySem.W.nsIn K mainGlobals "Account" = some (some (.ref A))) (aS : PySem.W.nsIn K mainGlobals "State" = some (some (.ref S))) (aE : PySem.W.nsIn K mainGlobals "Ending" = some (some (.ref E))) (aC : PySem.W.nsIn K mainGlobals "Call" = some (some (.ref C))) (f : Facts K mg ⟨R, P, V, A, S, E, C⟩) : ∃ a, Facts K mg a := ⟨_, f⟩
theorem facts_of {K : PySem.W.Frag} {h : Heap} {mg : Str → Option Value} {G : Prop} (X : K.In h) (f : ∃ a, Facts K mg a) (k : ∀ a, Facts K mg a → G) : G := let ⟨a, q⟩ := f; k a q
end Lt
/-! # LtW: gifts, lines, accounts -/
namespace Lt
open PySem PySem.Spec PyProof.Rows L2
open Vbbraf (handOf turnOf held toCome legal value valueBy behind gained gift keeps line givenBy wonIn total)
theorem account_fail : ∀ (l : List Nat) (p q : Vbbraf.Pos) (es : List Vbbraf.Entry) (c : Nat) (r : List Nat), Vbbraf.account p l = some (es, q) → c ∉ legal q → Vbbraf.account p (l ++ c :: r) = none
  | [], p, q, es, c, r, h, hc => by
    have h' : some (([] : List Vbbraf.Entry), p) = some (es, q) := h
    cases h'
    show (if (legal p).contains c = false then none else _) = _
    rw [if_pos (by simpa using hc)]
  | a :: l, p, q, es, c, r, h, hc => by
    have h' : (if (legal p).contains a = false then none else (match Vbbraf.account (behind p a).1 l with
      | none => none
      | some (l, q) => some (⟨turnOf p, gift p a, gained (behind p a).2⟩ :: l, q))) = some (es, q) := h
    show (if (legal p).contains a = false then none else (match Vbbraf.account (behind p a).1 (l ++ c :: r) with
      | none => none
      | some (l, q) => some (⟨turnOf p, gift p a, gained (behind p a).2⟩ :: l, q))) = _
    split at h'
    · cases h'
    · rename_i z
      rw [if_neg z]
      cases e : Vbbraf.account (behind p a).1 l with
      | none => rw [e] at h'; cases h'
      | some x =>
        obtain ⟨es', q'⟩ := x
        rw [e] at h'
        cases h'
        rw [account_fail l _ _ _ c r e hc]
theorem total_app : ∀ l m : List Nat, total (l ++ m) = total l + total m
  | [], m => by
    have : total [] = 0 := rfl
    rw [List.nil_append, this]
    omega
  | a :: l, m => by
    rw [List.cons_append, total_cons, total_cons, total_app l m]
    omega
theorem total_one (n : Nat) : total [n] = n := by rw [total_cons]; rfl
theorem given_snoc (side : Nat) (es : List Vbbraf.Entry) (e : Vbbraf.Entry) : givenBy side (es ++ [e]) = givenBy side es + (if e.seat % 2 = side then e.gift else 0) := by
  unfold givenBy
  rw [List.filter_append, List.map_append, total_app]
  congr 1
  by_cases c : e.seat % 2 = side
  · rw [if_pos c]
    simp [c, total_one]
  · rw [if_neg c]
    simp [c]
    rfl
theorem won_snoc (es : List Vbbraf.Entry) (e : Vbbraf.Entry) : wonIn (es ++ [e]) = wonIn es + e.won := by
  unfold wonIn
  rw [List.map_append, total_app, List.map_cons, List.map_nil, total_one]
section
variable {P : Program} {w : World} {K : PySem.W.Frag} {mg : Str → Option Value} {base : Heap} {a : Ads}
def sp_gift (a : Ads) (w : World) : Sp := fun vs H Q _ => vs.length = 3 ∧ ∃ v x p D c, vs = [.ref v, .ref x, .int ((c : Nat) : Int)] ∧ At a w H v x p D ∧ c ∈ legal p ∧ held p < 17 ∧ ∀ H', Kp H H' → ValAt a.V w D H' v → Q (.int (gift p c : Nat)) H'
theorem ok_gift (D : DnM K a.V "gift" "Valuer.gift" s_Valuer_gift) (T : Txt K mg a) (F_side_of : FnA P w K mg base CX0 1 "side_of" sp_side_of) (F_seat_on_turn : FnA P w K mg base CX0 1 "seat_on_turn" (sp_seat_on_turn a))
    (M_value : MtA P w K mg base 57 a.V "value" (sp_value a w 17)) (M_value_by : MtA P w K mg base 55 a.V "value_by" (sp_by a w 17)) : MtA P w K mg base 58 a.V "gift" (sp_gift a w) := by
  refine D.ok sc_Valuer_gift (fun _ _ _ _ _ _ us hl => match us, hl with | [_, _, _], _ => rfl) (fun _ _ _ _ h => h.1) fun f cdv A outer s H vs Q E hr h => ⟨_, (pss_cons (ps_set (i := 3) sc_Valuer_gift.nd rfl (Or.inl rfl) (pe_op op_sub (pm (names := nV) M_value hr (by decide) (by decide) (pv 0) (pa_cons (pv 1) pa_nil)) (pm (names := nV) M_value_by hr (by decide) (by decide) (pv 0) (pa_cons (pv 1) (pa_cons (pv 2) pa_nil)))))
      (pss_cons (ps_if (pt_cmpR op_eq (pc F_side_of hr (by decide) (pa_cons (pc F_seat_on_turn hr (by decide) (pa_cons (pv 1) pa_nil)) pa_nil)) pe_int (nomark _)) (pss_one (ps_ret (pv 3))) pss_nil)
      (pss_one (ps_ret (pe_un un_neg (pv 3)))))), ?_⟩
  obtain ⟨_, v, x, p, D, c, rfl, h, hc, hn, q⟩ := h
  obtain ⟨vx, d, kn, e1, e2, e3⟩ := id h.val
  refine ⟨_, rfl, v, vx, _, rfl, e1, _, rfl, rfl, v, x, p, D, rfl, h, hn, fun H1 k1 v1 => ?_⟩
  obtain ⟨vx1, d1, kn1, f1, f2, f3⟩ := id v1
  have h1 := h.kp k1 v1
  refine ⟨_, rfl, v, vx1, _, rfl, f1, _, rfl, _, rfl, rfl, v, x, p, D, c, rfl, h1, hc, hn, fun H2 k2 v2 => ?_⟩
  have h2 := h1.kp k2 v2
  refine ⟨_, _, rfl, rfl, _, rfl, rfl, x, p, rfl, h2.pos, rfl, turnOf p, rfl, rfl, _, rfl, ?_⟩
  rw [dint]
  have fin := q H2 (k1.trans k2) v2
  rw [gift_eq h.fine hc] at fin
  refine ite2 (fun z => ?_) (fun z => ?_)
  · rw [if_pos (by have := of_decide_eq_true z; omega)] at fin
    exact ⟨_, rfl, fin⟩
  · rw [if_neg (fun y => z (decide_eq_true (by omega)))] at fin
    exact ⟨_, rfl, _, rfl, fin⟩
def sp_least (a : Ads) (w : World) : Sp := fun vs H Q _ => vs.length = 2 ∧ ∃ v x p D, vs = [.ref v, .ref x] ∧ At a w H v x p D ∧ 0 < held p ∧ held p < 17 ∧ ∀ H' c, Kp H H' → ValAt a.V w D H' v → (legal p).find? (keeps p) = some c → Q (.int ((c : Nat) : Int)) H'
theorem find_at {f : Nat → Bool} : ∀ {l : List Nat} {i c : Nat}, l[i]? = some c → (∀ j x, j < i → l[j]? = some x → f x = false) → f c = true → l.find? f = some c
  | [], _, _, h, _, _ => by simp at h
  | a :: l, 0, c, h, _, hc => by
    have : a = c := Option.some.inj h
    subst this
    rw [List.find?_cons, hc]
  | a :: l, i + 1, c, h, hj, hc => by
    have h0 := hj 0 a (Nat.succ_pos _) rfl
    rw [List.find?_cons, h0]
    exact find_at (i := i) h (fun j x hji hx => hj (j + 1) x (Nat.succ_lt_succ hji) hx) hc
theorem ok_least (D : DnM K a.V "least_keeping" "Valuer.least_keeping" s_Valuer_least_keeping) (T : Txt K mg a) (F_playable : FnA P w K mg base CX0 3 "playable" (sp_playable a))
    (M_gift : MtA P w K mg base 58 a.V "gift" (sp_gift a w)) : MtA P w K mg base 59 a.V "least_keeping" (sp_least a w) := by
  refine D.ok sc_Valuer_least_keeping (fun _ _ _ _ _ _ us hl => match us, hl with | [_, _], _ => rfl) (fun _ _ _ _ h => h.1) fun f cdv A outer s H vs Q E hr h => ⟨_, (pss_cons (ps_for PassesOwn.never rfl (pi_tup (pc F_playable hr (by decide) (pa_cons (pv 1) pa_nil))) (pg_name (i := 2) sc_Valuer_least_keeping.nd rfl (Or.inl rfl)) (pss_one (ps_if (pt_cmpR op_eq (pm (names := nV) M_gift hr (by decide) (by decide) (pv 0) (pa_cons (pv 1) (pa_cons (pv 2) pa_nil))) pe_int (nomark _)) (pss_one (ps_ret (pv 2))) pss_nil)))
      (pss_one (ps_ret pe_non))), ?_⟩
  obtain ⟨_, v, x, p, D, rfl, h, h0, hn, q⟩ := h
  refine ⟨_, rfl, rfl, x, p, rfl, h.pos, h.fine.n4, h.hund, fun b H1 s1 b1 => ?_⟩
  refine ⟨b, rfl, ⟨_, SqT.of b1⟩, for_tup (K := K) (xs := nv (legal p)) (fun i σ H' => Kp H1 H' ∧ ValAt a.V w D H' v ∧ (∀ j c, j < i → (legal p)[j]? = some c → keeps p c = false) ∧ ∃ y, σ = [some (.ref v), some (.ref x), y]) ⟨Kp.refl _, h.val.same s1, fun j c hj => absurd hj (Nat.not_lt_zero _), none, rfl⟩ (fun i σ H' _ g => SqT.of (g.1.tup _ _ b1)) (fun i y σ H' hi g => ?_) (fun σ H' g => ?_)⟩
  · obtain ⟨c, hc, rfl⟩ := of_nv hi
    obtain ⟨g1, g2, g3, y, rfl⟩ := g
    obtain ⟨vx, d, kn, e1, e2, e3⟩ := id g2
    have hm := List.mem_of_getElem? hc
    have hh := h.kp ((Kp.of s1).trans g1) g2
    refine ⟨_, rfl, v, vx, _, rfl, e1, _, rfl, _, rfl, rfl, v, x, p, D, c, rfl, hh, hm, hn, fun H2 k2 v2 => ⟨rfl, _, rfl, ?_⟩⟩
    rw [dint, gift_zero h.fine hm]
    refine ite2 (fun z => ?_) (fun z => ?_)
    · exact ⟨_, rfl, q H2 c (((Kp.of s1).trans g1).trans k2) v2 (find_at hc g3 z)⟩
    · refine ⟨g1.trans k2, v2, fun j c' hj hc' => ?_, _, rfl⟩
      by_cases ej : j = i
      · subst ej
        rw [hc] at hc'
        cases hc'
        simpa using z
      · exact g3 j c' (by omega) hc'
  · obtain ⟨g1, g2, g3, y, rfl⟩ := g
    exfalso
    obtain ⟨c, hc⟩ := keeper h.fine h0
    obtain ⟨j, hj⟩ := List.mem_iff_getElem?.mp (List.mem_of_find?_eq_some hc)
    have hlt : j < (nv (legal p)).length := by rw [nv_len]; exact (List.getElem?_eq_some_iff.mp hj).1
    have z1 := g3 j c hlt hj
    have z2 := List.find?_some hc
    rw [z1] at z2
    cases z2
def sp_bline (a : Ads) (w : World) : Sp := fun vs H Q _ => vs.length = 2 ∧ ∃ v x p D, vs = [.ref v, .ref x] ∧ At a w H v x p D ∧ held p < 17 ∧ ∀ H' r, Kp H H' → ValAt a.V w D H' v → H' r = some (.lst (nv (line p))) → Q (.ref r) H'
theorem ok_bline (D : DnM K a.V "best_line" "Valuer.best_line" s_Valuer_best_line) (T : Txt K mg a) (F_cards_left : FnA P w K mg base CX0 1 "cards_left" (sp_cards_left a)) (F_position_after : FnA P w K mg base CX0 4 "position_after" (sp_position_after a))
    (M_least_keeping : MtA P w K mg base 59 a.V "least_keeping" (sp_least a w)) : MtA P w K mg base 60 a.V "best_line" (sp_bline a w) := by
  refine D.ok sc_Valuer_best_line (fun _ _ _ _ _ _ us hl => match us, hl with | [_, _], _ => rfl) (fun _ _ _ _ h => h.1) fun f cdv A outer s H vs Q E hr h => ⟨_, (pss_cons (ps_set (i := 2) sc_Valuer_best_line.nd rfl (Or.inl rfl) (pe_lst pa_nil))
      (pss_cons (ps_while PassesOwn.never (pt_cmpR op_gt (pc F_cards_left hr (by decide) (pa_cons (pv 1) pa_nil)) pe_int (nomark _)) (pss_cons (ps_set (i := 3) sc_Valuer_best_line.nd rfl (Or.inl rfl) (pm (names := nV) M_least_keeping hr (by decide) (by decide) (pv 0) (pa_cons (pv 1) pa_nil)))
      (pss_cons (ps_expr (pe_bm PySem.F.plainAttrs_list PySem.F.slot_list_append PySem.F.type_list_append mt_append (pv 2) (pa_cons (pv 3) pa_nil)))
      (pss_one (ps_set (i := 1) sc_Valuer_best_line.nd rfl (Or.inl rfl) (pc F_position_after hr (by decide) (pa_cons (pv 1) (pa_cons (pv 3) pa_nil))))))))
      (pss_one (ps_ret (pv 2))))), ?_⟩
  obtain ⟨_, v, x, p, D, rfl, h, hn, q⟩ := h
  refine ⟨sz 0 (by decide), fun l hl => ?_⟩
  refine ⟨fun m σ H' => ∃ y p' pre z, m = held p' ∧ σ = [some (.ref v), some (.ref y), some (.ref l), z] ∧ Kp H H' ∧ At a w H' v y p' D ∧ H' l = some (.lst (nv pre)) ∧ line p = pre ++ line p' ∧ pre.length + held p' ≤ 16, ⟨_, x, p, [], none, rfl, rfl, Kp.of (same_new hl _), h.same (same_new hl _), upd_same, rfl, by simp; omega⟩, ?_⟩
  rintro m σ H' ⟨y, p', pre, z, rfl, rfl, k1, h1, l1, e1, hz⟩
  refine ⟨_, rfl, rfl, y, p', rfl, h1.pos, h1.fine.n4, fun H2 s2 => ⟨_, _, rfl, rfl, _, rfl, ?_⟩⟩
  have h2 := h1.same s2
  refine ite2 (fun c => ?_) (fun c => ?_)
  · have hp0 : 0 < held p' := by have := of_decide_eq_true c; omega
    obtain ⟨vx, d, kn, f1, f2, f3⟩ := id h2.val
    refine ⟨fun σ' H'' => ∃ m', m' < held p' ∧ ∃ y p' pre z, m' = held p' ∧ σ' = [some (.ref v), some (.ref y), some (.ref l), z] ∧ Kp H H'' ∧ At a w H'' v y p' D ∧ H'' l = some (.lst (nv pre)) ∧ line p = pre ++ line p' ∧ pre.length + held p' ≤ 16, fun _ _ h => h, ?_⟩
    refine ⟨_, rfl, v, vx, _, rfl, f1, _, rfl, rfl, v, y, p', D, rfl, h2, hp0, by omega, fun H3 c k3 v3 hc => ?_⟩
    obtain ⟨hm, el⟩ := line_step h1.fine hp0 hc
    have h3 := h2.kp k3 v3
    have l3 := k3 _ _ (s2 _ _ l1) trivial
    refine ⟨_, rfl, .inl ⟨rfl, _, SqL.of l3⟩, _, rfl, l, _, _, rfl, rfl, l3, ?_, ?_⟩
    · rw [nv_len]
      exact szl _ (by omega)
    have k4 : Kp H (upd H3 l (.lst (nv pre ++ [.int ((c : Nat) : Int)]))) := kp_new hl ((k1.trans (Kp.of s2)).trans k3)
    have h4 : At a w (upd H3 l (.lst (nv pre ++ [.int ((c : Nat) : Int)]))) v y p' D := ⟨h3.pos.lst l3, h3.val.lst l3, h3.fine, h3.ins, h3.small⟩
    have l4 : (upd H3 l (.lst (nv pre ++ [.int ((c : Nat) : Int)]))) l = some (.lst (nv (pre ++ [c]))) := by rw [upd_same, nv_app]; rfl
    generalize upd H3 l (.lst (nv pre ++ [.int ((c : Nat) : Int)])) = H4 at k4 h4 l4 ⊢
    refine ⟨_, rfl, _, rfl, rfl, y, p', c, rfl, h4.pos, h4.fine.n4, h4.hund, h4.fine.tk, fun y5 H5 s5 a5 => ?_⟩
    obtain ⟨F', hh⟩ := h4.fine.behind (legal_sub hm)
    refine ⟨held (behind p' c).1, by omega, y5, (behind p' c).1, pre ++ [c], _, rfl, rfl, k4.trans (Kp.of s5), ⟨a5, h4.val.same s5, F', h4.ins.behind h4.fine c, h4.small⟩, s5 _ _ l4, ?_, ?_⟩
    · rw [e1, el, List.append_assoc]
      rfl
    · rw [List.length_append, List.length_singleton]
      omega
  · have hp0 : held p' = 0 := by
      have : ¬ (0 : Int) < ((held p' : Nat) : Int) := fun y => c (decide_eq_true y)
      omega
    rw [line_end hp0, List.append_nil] at e1
    exact ⟨_, rfl, q H2 l (k1.trans (Kp.of s2)) h2.val (by rw [s2 _ _ l1, e1])⟩

/-! ### accounts -/
def AccAt (c : Addr) (H : Hp) (x gl sl : Addr) (n t e : Int) (g0 g1 : Nat) (gs : List Nat) : Prop := ∃ dx, H x = some (.ins c dx (nA.zip [.int n, .ref gl, .ref sl, .int t, .int e])) ∧ H gl = some (.lst (nv gs)) ∧ H sl = some (.lst [.int (g0 : Int), .int (g1 : Int)]) ∧ gl ≠ sl
theorem AccAt.same {c : Addr} {H H' : Hp} {x gl sl : Addr} {n t e : Int} {g0 g1 : Nat} {gs : List Nat} (s : Same H H') (h : AccAt c H x gl sl n t e g0 g1 gs) : AccAt c H' x gl sl n t e g0 g1 gs :=
  let ⟨dx, h1, h2, h3, h4⟩ := h
  ⟨dx, s _ _ h1, s _ _ h2, s _ _ h3, h4⟩
theorem AccAt.kp {c : Addr} {H H' : Hp} {x gl sl : Addr} {n t e : Int} {g0 g1 : Nat} {gs : List Nat} (k : Kp H H') (h : AccAt c H x gl sl n t e g0 g1 gs) : AccAt c H' x gl sl n t e g0 g1 gs :=
  let ⟨dx, h1, h2, h3, h4⟩ := h
  ⟨dx, k _ _ h1 trivial, k _ _ h2 trivial, k _ _ h3 trivial, h4⟩
def sp_Account (a : Ads) : Sp := fun vs H Q _ => vs.length = 2 ∧ ∃ x dx n, vs = [.ref x, .int n] ∧ H x = some (.ins a.A dx []) ∧ ∀ gl sl H', H gl = none → H sl = none → (∀ b o, H b = some o → b ≠ x → H' b = some o) → AccAt a.A H' x gl sl n 0 n 0 0 [] → Q .non H'
theorem ok_Account (D : DnK K mg "Account" a.A "Account.__init__" s_Account_init) (T : Txt K mg a) : MkA P w K mg base 1 "Account" a.A (sp_Account a) := by
  refine D.ok sc_Account_init (fun _ _ _ _ _ _ us hl => match us, hl with | [_, _], _ => rfl) (fun _ _ _ _ h => h.1) fun f cdv A outer s H vs Q E hr h => ⟨_, (pss_cons (ps_fNew 0 T.kA (pv 0) (pv 1))
      (pss_cons (ps_fNew 1 T.kA (pv 0) (pe_lst pa_nil))
      (pss_cons (ps_fNew 2 T.kA (pv 0) (pe_lst (pa_cons pe_int (pa_cons pe_int pa_nil))))
      (pss_cons (ps_fNew 3 T.kA (pv 0) pe_int)
      (pss_one (ps_fNew 4 T.kA (pv 0) (pv 1))))))), ?_⟩
  obtain ⟨_, x, dx, n, rfl, hx, q⟩ := h
  refine ⟨_, rfl, _, rfl, x, dx, [], rfl, hx, rfl, ?_⟩
  refine ⟨sz 0 (by decide), fun gl hgl => ?_⟩
  have ngx : gl ≠ x := fun z => by rw [z, upd_same] at hgl; cases hgl
  have hgl' : H gl = none := by rw [upd_ne ngx] at hgl; exact hgl
  refine ⟨_, rfl, x, dx, [.int n], rfl, (by rw [upd_ne (Ne.symm ngx), upd_same]; rfl), rfl, ?_⟩
  refine ⟨sz 2 (by decide), fun sl hsl => ?_⟩
  have nsx : sl ≠ x := fun z => by rw [z, upd_same] at hsl; cases hsl
  have nsg : sl ≠ gl := fun z => by rw [z, upd_ne ngx, upd_same] at hsl; cases hsl
  have hsl' : H sl = none := by rw [upd_ne nsx, upd_ne nsg, upd_ne nsx] at hsl; exact hsl
  refine ⟨_, rfl, x, dx, [.int n, .ref gl], rfl, (by rw [upd_ne (Ne.symm nsx), upd_same]; rfl), rfl, ?_⟩
  refine ⟨_, rfl, x, dx, [.int n, .ref gl, .ref sl], rfl, upd_same, rfl, ?_⟩
  refine ⟨_, rfl, _, rfl, x, dx, [.int n, .ref gl, .ref sl, .int 0], rfl, upd_same, rfl, ?_⟩
  refine q gl sl _ hgl' hsl' (fun b o e nb => ?_) ⟨dx, upd_same, ?_, ?_, Ne.symm nsg⟩
  · have nbg : b ≠ gl := fun z => by rw [z, hgl'] at e; cases e
    have nbs : b ≠ sl := fun z => by rw [z, hsl'] at e; cases e
    rw [upd_ne nb, upd_ne nb, upd_ne nb, upd_ne nbs, upd_ne nb, upd_ne nbg, upd_ne nb]
    exact e
  · rw [upd_ne ngx, upd_ne ngx, upd_ne ngx, upd_ne (Ne.symm nsg), upd_ne ngx, upd_same]
    rfl
  · rw [upd_ne nsx, upd_ne nsx, upd_ne nsx, upd_same]
    rfl
theorem use_Account {a : Ads} {H : Hp} {R : Addr → Hp → Prop} {n : Int} (q : ∀ x gl sl H', H x = none → H gl = none → H sl = none → Same H H' → AccAt a.A H' x gl sl n 0 n 0 0 [] → R x H') :
    ∀ x dx, H x = none → H dx = none → dx ≠ x → sp_Account a [.ref x, .int n] (upd (upd H dx (.own x)) x (.ins a.A dx [])) (fun y H2 => y = .non ∧ R x H2) E0 := fun x dx hx hd ne => by
  refine ⟨rfl, x, dx, n, rfl, upd_same, fun gl sl H' h1 h2 k ac => ⟨rfl, ?_⟩⟩
  have back : ∀ b, (upd (upd H dx (.own x)) x (.ins a.A dx [])) b = none → H b = none := fun b e => by
    cases z : H b with
    | none => rfl
    | some o => rw [upd_ne (ne_of_none z hx), upd_ne (ne_of_none z hd), z] at e; cases e
  refine q x gl sl H' hx (back _ h1) (back _ h2) (fun b o e => k b o ?_ (ne_of_none e hx)) ac
  rw [upd_ne (ne_of_none e hx), upd_ne (ne_of_none e hd)]
  exact e
def sp_asnum (a : Ads) : Sp := fun vs H Q _ => vs.length = 1 ∧ ∃ x gl sl n t e g0 g1 gs, vs = [.ref x] ∧ AccAt a.A H x gl sl n t e g0 g1 gs ∧ gs.length ≤ 500 ∧ ∀ r H', Same H H' → H' r = some (.lst (V.int n :: .int (g0 : Int) :: .int (g1 : Int) :: .int t :: .int e :: nv gs)) → Q (.ref r) H'
theorem ok_asnum (D : DnM K a.A "as_numbers" "Account.as_numbers" s_Account_as_numbers) (T : Txt K mg a) : MtA P w K mg base 1 a.A "as_numbers" (sp_asnum a) := by
  refine D.ok sc_Account_as_numbers (fun _ _ _ _ _ _ us hl => match us, hl with | [_], _ => rfl) (fun _ _ _ _ h => h.1) fun f cdv A outer s H vs Q E hr h => ⟨_, (pss_cons (ps_set (i := 1) sc_Account_as_numbers.nd rfl (Or.inl rfl) (pe_f 2 T.kA (pv 0)))
      (pss_one (ps_ret (pe_op op_cat (pe_lst (pa_cons (pe_f 0 T.kA (pv 0)) (pa_cons (pe_ix (ix_listK (K := K)) (pv 1) pe_int (fun _ _ => rfl)) (pa_cons (pe_ix (ix_listK (K := K)) (pv 1) pe_int (fun _ _ => rfl)) (pa_cons (pe_f 3 T.kA (pv 0)) (pa_cons (pe_f 4 T.kA (pv 0)) pa_nil)))))) (pe_f 1 T.kA (pv 0)))))), ?_⟩
  obtain ⟨_, x, gl, sl, n, t, e, g0, g1, gs, rfl, ⟨dx, h1, h2, h3, h4⟩, hz, q⟩ := h
  refine ⟨_, rfl, x, dx, _, _, rfl, h1, rfl, _, rfl, x, dx, _, _, rfl, h1, rfl, _, rfl, sl, _, 0, _, rfl, rfl, SqL.of h3, rfl, _, rfl, sl, _, 1, _, rfl, rfl, SqL.of h3, rfl, _, rfl, x, dx, _, _, rfl, h1, rfl, _, rfl, x, dx, _, _, rfl, h1, rfl, sz 5 (by decide), fun r1 hr1 => ?_⟩
  have s1 := same_new hr1 (.lst [V.int n, .int (g0 : Int), .int (g1 : Int), .int t, .int e])
  refine ⟨_, rfl, x, dx, _, _, rfl, s1 _ _ h1, rfl, r1, gl, _, _, rfl, rfl, upd_same, s1 _ _ h2, ?_, fun r hr => ?_⟩
  · rw [nv_len]
    exact sz _ (by show 5 + gs.length ≤ 1000; omega)
  · exact q r _ (s1.trans (same_new hr _)) (by rw [upd_same]; rfl)
theorem PosAt.acc {c c' : Addr} {H : Hp} {x y dy : Addr} {p : Vbbraf.Pos} {v1 : V} {vals : List V} {o : HO} (h : PosAt c H x p) (hy : H y = some (.ins c' dy (nA.zip (v1 :: vals)))) : PosAt c (upd H y o) x p :=
  h.imp (fun b xs e => by rw [upd_ne (ne_of e hy (fun z => by cases z))]; exact e) fun b dx vs e hl => by
    have ne : b ≠ y := ne_of e hy fun z => by
      match vs, hl with
      | [w1, w2, w3, w4], _ =>
        injection z with _ _ z
        have z' : (("hands" : Str), w1) :: (nP.tail.zip [w2, w3, w4]) = (("start_value" : Str), v1) :: (nA.tail.zip vals) := z
        injection z' with z1 _
        injection z1 with z2 _
        exact absurd z2 (by decide +kernel)
    rw [upd_ne ne]
    exact e
theorem ValAt.acc {c c' : Addr} {w : World} {D : List (List Nat)} {H : Hp} {v y dy : Addr} {v1 : V} {vals : List V} {o : HO} (h : ValAt c w D H v) (hy : H y = some (.ins c' dy (nA.zip (v1 :: vals)))) : ValAt c w D (upd H y o) v :=
  h.imp (fun b xs e => by rw [upd_ne (ne_of e hy (fun z => by cases z))]; exact e) (fun b φ e => by rw [upd_ne (ne_of e hy (fun z => by cases z))]; exact e) fun b dx vs e hl => by
    have ne : b ≠ y := ne_of e hy fun z => by
      match vs, hl with
      | [w1], _ =>
        injection z with _ _ z
        have z' : [(("known" : Str), w1)] = (("start_value" : Str), v1) :: (nA.tail.zip vals) := z
        injection z' with z1 _
        injection z1 with z2 _
        exact absurd z2 (by decide +kernel)
    rw [upd_ne ne]
    exact e
def gifts (es : List Vbbraf.Entry) : List Nat := es.map fun e => e.gift
def sp_account_of (a : Ads) (w : World) (K : PySem.W.Frag) : Sp := fun vs H Q _ => vs.length = 3 ∧ ∃ v x p D cb l, vs = [.ref v, .ref x, .ref cb] ∧ At a w H v x p D ∧ held p < 17 ∧ SqL K H cb (nv l) ∧ l.length ≤ 400 ∧
  (∀ H', Kp H H' → ValAt a.V w D H' v → Vbbraf.account p l = none → Q .non H') ∧
  (∀ H' es q y gl sl, Kp H H' → ValAt a.V w D H' v → Vbbraf.account p l = some (es, q) → es.length = l.length → AccAt a.A H' y gl sl (value p : Nat) (wonIn es : Nat) (value q : Nat) (givenBy 0 es) (givenBy 1 es) (gifts es) → Q (.ref y) H')
theorem ok_account_of (D : Dn K mg "account_of" s_account_of) (T : Txt K mg a) (F_playable : FnA P w K mg base CX0 3 "playable" (sp_playable a)) (F_side_of : FnA P w K mg base CX0 1 "side_of" sp_side_of) (F_seat_on_turn : FnA P w K mg base CX0 1 "seat_on_turn" (sp_seat_on_turn a))
    (F_tricks_of_side_0 : FnA P w K mg base CX0 5 "tricks_of_side_0" (sp_tricks0 a)) (F_position_after : FnA P w K mg base CX0 4 "position_after" (sp_position_after a)) (M_value : MtA P w K mg base 57 a.V "value" (sp_value a w 17)) (M_gift : MtA P w K mg base 58 a.V "gift" (sp_gift a w))
    (K_A : MkA P w K mg base 1 "Account" a.A (sp_Account a)) : FnA P w K mg base CX0 59 "account_of" (sp_account_of a w K) := by
  refine D.ok sc_account_of (fun _ _ _ _ _ _ us hl => match us, hl with | [_, _, _], _ => rfl) (fun _ _ _ _ h => h.1) fun f cdv A outer s H vs Q E hr h => ⟨_, (pss_cons (ps_set (i := 3) sc_account_of.nd rfl (Or.inl rfl) (pmk K_A hr (by decide) (pa_cons (pm (names := nV) M_value hr (by decide) (by decide) (pv 0) (pa_cons (pv 1) pa_nil)) pa_nil)))
      (pss_cons (ps_for PassesOwn.never rfl (pi_list (pv 2)) (pg_name (i := 4) sc_account_of.nd rfl (Or.inl rfl)) (pss_cons (ps_if (pt_cmpR (op_niK (K := K)) (pv 4) (pc F_playable hr (by decide) (pa_cons (pv 1) pa_nil)) (by with_unfolding_all rfl)) (pss_one (ps_ret pe_non)) pss_nil)
      (pss_cons (ps_set (i := 5) sc_account_of.nd rfl (Or.inl rfl) (pm (names := nV) M_gift hr (by decide) (by decide) (pv 0) (pa_cons (pv 1) (pa_cons (pv 4) pa_nil))))
      (pss_cons (ps_expr (pe_bm PySem.F.plainAttrs_list PySem.F.slot_list_append PySem.F.type_list_append mt_append (pe_f 1 T.kA (pv 3)) (pa_cons (pv 5) pa_nil)))
      (pss_cons (ps_augS (pe_f 2 T.kA (pv 3)) (pc F_side_of hr (by decide) (pa_cons (pc F_seat_on_turn hr (by decide) (pa_cons (pv 1) pa_nil)) pa_nil)) get_lst (pv 5) ip_add set_list)
      (pss_cons (ps_fAug 3 T.kA (pv 3) (pc F_tricks_of_side_0 hr (by decide) (pa_cons (pv 1) (pa_cons (pv 4) pa_nil))))
      (pss_one (ps_set (i := 1) sc_account_of.nd rfl (Or.inl rfl) (pc F_position_after hr (by decide) (pa_cons (pv 1) (pa_cons (pv 4) pa_nil)))))))))))
      (pss_cons (ps_fSet 4 T.kA (pv 3) (pm (names := nV) M_value hr (by decide) (by decide) (pv 0) (pa_cons (pv 1) pa_nil)))
      (pss_one (ps_ret (pv 3)))))), ?_⟩
  obtain ⟨_, v, x, p, D, cb, l, rfl, h, hn, hcb, hz, qN, qS⟩ := h
  obtain ⟨vx, d, kn, e1, e2, e3⟩ := id h.val
  refine ⟨_, rfl, v, vx, _, rfl, e1, _, rfl, rfl, v, x, p, D, rfl, h, hn, fun H1 k1 v1 => ?_⟩
  refine use_Account (fun y gl sl H2 y0 g0 s0 s2 ac2 => ?_)
  have back : ∀ b, H1 b = none → ∀ o, NoExt o → H b ≠ some o := fun b e o no z => by rw [k1 _ _ z no] at e; cases e
  have kpH : ∀ {H' : Hp} {b : Addr} {o : HO}, H1 b = none → Kp H H' → Kp H (upd H' b o) := fun {H' b o} e k c u q no => by
    have : c ≠ b := fun z => back b e u no (by rw [← z]; exact q)
    rw [upd_ne this]
    exact k c u q no
  refine ⟨_, rfl, cb, rfl, ⟨_, (k1.trans (Kp.of s2)).sqL hcb⟩, for_list (K := K) (xs := nv l) (fun i σ H' => ∃ es q yq z1 z2, Vbbraf.account p (l.take i) = some (es, q) ∧ es.length = i ∧ held q ≤ held p ∧ Kp H H' ∧ At a w H' v yq q D ∧
    AccAt a.A H' y gl sl (value p : Nat) (wonIn es : Nat) (value p : Nat) (givenBy 0 es) (givenBy 1 es) (gifts es) ∧ σ = [some (.ref v), some (.ref yq), some (.ref cb), some (.ref y), z1, z2])
    ⟨[], p, x, none, none, rfl, rfl, Nat.le_refl _, k1.trans (Kp.of s2), (h.kp k1 v1).same s2, ac2, rfl⟩ (fun i σ H' _ g => ?_) (fun i yv σ H' hi g => ?_) (fun σ H' g => ?_)⟩
  · obtain ⟨es, q, yq, z1, z2, _, _, _, k, _⟩ := g
    exact k.sqL hcb
  · obtain ⟨c, hc, rfl⟩ := of_nv hi
    obtain ⟨es, q, yq, z1, z2, ea, el, hq, k3, h3, ac3, rfl⟩ := g
    have hlt : i < l.length := (List.getElem?_eq_some_iff.mp hc).1
    refine ⟨_, rfl, _, rfl, rfl, yq, q, rfl, h3.pos, h3.fine.n4, h3.hund, fun b H4 s4 b4 => ?_⟩
    refine ⟨b, _, rfl, .inr (SqT.of b4), rfl, ?_, _, rfl, ?_⟩
    · unfold nv
      rw [List.all_map, List.all_eq_true]
      intro n _
      rfl
    have inq : inV (V.int (c : Int)) (nv (legal q)) = decide (c ∈ legal q) := by
      unfold inV nv
      rw [List.any_map, Bool.eq_iff_iff, List.any_eq_true, decide_eq_true_eq]
      constructor
      · rintro ⟨n, hn, e⟩
        have e' : ((n : Int) == (c : Int)) = true := e
        have : n = c := by have := eq_of_beq e'; omega
        rw [← this]; exact hn
      · intro hm
        exact ⟨c, hm, by show ((c : Int) == (c : Int)) = true; exact beq_self_eq_true _⟩
    have h4 := h3.same s4
    have ac4 := ac3.same s4
    have k4 := k3.trans (Kp.of s4)
    rw [if_pos rfl, inq]
    by_cases cm : c ∈ legal q
    · rw [decide_eq_true cm]
      refine iteF ?_
      obtain ⟨vx4, d4, kn4, f1, f2, f3⟩ := id h4.val
      refine ⟨_, rfl, v, vx4, _, rfl, f1, _, rfl, _, rfl, rfl, v, yq, q, D, c, rfl, h4, cm, by omega, fun H5 k5 v5 => ?_⟩
      have h5 := h4.kp k5 v5
      obtain ⟨dy, a1, a2, a3, a4⟩ := ac4.kp k5
      refine ⟨_, rfl, y, dy, _, _, rfl, a1, rfl, .inl ⟨rfl, _, SqL.of a2⟩, _, rfl, gl, _, _, rfl, rfl, a2, ?_, ?_⟩
      · rw [nv_len]
        unfold gifts
        rw [List.length_map]
        exact szl _ (by omega)
      have k6 : Kp H (upd H5 gl (.lst (nv (gifts es) ++ [.int ((gift q c : Nat) : Int)]))) := kpH g0 (k4.trans k5)
      have h6 : At a w (upd H5 gl (.lst (nv (gifts es) ++ [.int ((gift q c : Nat) : Int)]))) v yq q D := ⟨h5.pos.lst a2, h5.val.lst a2, h5.fine, h5.ins, h5.small⟩
      have b1 : (upd H5 gl (.lst (nv (gifts es) ++ [.int ((gift q c : Nat) : Int)]))) y = _ := keep_lst a2 _ _ a1 fun ys z => by cases z
      have b2 : (upd H5 gl (.lst (nv (gifts es) ++ [.int ((gift q c : Nat) : Int)]))) gl = some (.lst (nv (gifts (es ++ [⟨turnOf q, gift q c, gained (behind q c).2⟩])))) := by
        rw [upd_same]
        unfold gifts
        rw [List.map_append, nv_app]
        rfl
      have b3 : (upd H5 gl (.lst (nv (gifts es) ++ [.int ((gift q c : Nat) : Int)]))) sl = some (.lst [.int (givenBy 0 es : Nat), .int (givenBy 1 es : Nat)]) := by rw [upd_ne (Ne.symm a4)]; exact a3
      generalize upd H5 gl (.lst (nv (gifts es) ++ [.int ((gift q c : Nat) : Int)])) = H6 at k6 h6 b1 b2 b3 ⊢
      -- the side's gifts
      have side : ∃ n0 n1, n0 = givenBy 0 (es ++ [⟨turnOf q, gift q c, gained (behind q c).2⟩]) ∧ n1 = givenBy 1 (es ++ [⟨turnOf q, gift q c, gained (behind q c).2⟩]) := ⟨_, _, rfl, rfl⟩
      have step : ∀ j : Nat, j = turnOf q % 2 → ∃ (xj : Int), atI [V.int (givenBy 0 es : Nat), V.int (givenBy 1 es : Nat)] ((turnOf q % 2 : Nat) : Int) = some (.int xj) ∧ ixN 2 ((turnOf q % 2 : Nat) : Int) = some j ∧
          [V.int (givenBy 0 es : Nat), V.int (givenBy 1 es : Nat)].set j (.int (xj + (gift q c : Nat))) = [V.int (givenBy 0 (es ++ [⟨turnOf q, gift q c, gained (behind q c).2⟩]) : Nat), V.int (givenBy 1 (es ++ [⟨turnOf q, gift q c, gained (behind q c).2⟩]) : Nat)] := fun j hj => by
        have m : turnOf q % 2 = 0 ∨ turnOf q % 2 = 1 := by omega
        rw [given_snoc, given_snoc]
        rcases m with m | m
        · rw [m] at hj ⊢
          subst hj
          refine ⟨_, rfl, rfl, ?_⟩
          dsimp only
          rw [if_pos rfl, if_neg (by decide)]
          rfl
        · rw [m] at hj ⊢
          subst hj
          refine ⟨_, rfl, rfl, ?_⟩
          dsimp only
          rw [if_neg (by decide), if_pos rfl]
          rfl
      obtain ⟨xj, t1, t2, t3⟩ := step _ rfl
      refine ⟨_, rfl, y, dy, _, _, rfl, b1, rfl, _, rfl, rfl, yq, q, rfl, h6.pos, rfl, turnOf q, rfl, sl, _, _, _, rfl, rfl, SqL.of b3, t1, _, rfl, _, _, rfl, rfl, sl, _, _, _, rfl, rfl, b3, t2, ?_⟩
      have k7 : Kp H (upd H6 sl (.lst [V.int (givenBy 0 (es ++ [⟨turnOf q, gift q c, gained (behind q c).2⟩]) : Nat), V.int (givenBy 1 (es ++ [⟨turnOf q, gift q c, gained (behind q c).2⟩]) : Nat)])) := kpH s0 k6
      have h7 : At a w (upd H6 sl (.lst [V.int (givenBy 0 (es ++ [⟨turnOf q, gift q c, gained (behind q c).2⟩]) : Nat), V.int (givenBy 1 (es ++ [⟨turnOf q, gift q c, gained (behind q c).2⟩]) : Nat)])) v yq q D := ⟨h6.pos.lst b3, h6.val.lst b3, h6.fine, h6.ins, h6.small⟩
      have c1 : (upd H6 sl (.lst [V.int (givenBy 0 (es ++ [⟨turnOf q, gift q c, gained (behind q c).2⟩]) : Nat), V.int (givenBy 1 (es ++ [⟨turnOf q, gift q c, gained (behind q c).2⟩]) : Nat)])) y = _ := keep_lst b3 _ _ b1 fun ys z => by cases z
      have c2 : (upd H6 sl (.lst [V.int (givenBy 0 (es ++ [⟨turnOf q, gift q c, gained (behind q c).2⟩]) : Nat), V.int (givenBy 1 (es ++ [⟨turnOf q, gift q c, gained (behind q c).2⟩]) : Nat)])) gl = _ := (upd_ne a4).trans b2
      have c3 : (upd H6 sl (.lst [V.int (givenBy 0 (es ++ [⟨turnOf q, gift q c, gained (behind q c).2⟩]) : Nat), V.int (givenBy 1 (es ++ [⟨turnOf q, gift q c, gained (behind q c).2⟩]) : Nat)])) sl = _ := upd_same
      rw [t3]
      generalize upd H6 sl (.lst [V.int (givenBy 0 (es ++ [⟨turnOf q, gift q c, gained (behind q c).2⟩]) : Nat), V.int (givenBy 1 (es ++ [⟨turnOf q, gift q c, gained (behind q c).2⟩]) : Nat)]) = H7 at k7 h7 c1 c2 c3 ⊢
      refine ⟨_, rfl, y, dy, _, ((wonIn es : Nat) : Int), rfl, c1, rfl, _, rfl, _, rfl, rfl, yq, q, c, rfl, h7.pos, h7.fine.tk, fun H8 s8 => ?_⟩
      have h8 := h7.same s8
      refine ⟨_, dy, _, rfl, s8 _ _ c1, (by decide : 3 < 5), ?_⟩
      have d1 := s8 _ _ c1
      have ew : ((wonIn es : Nat) : Int) + ((gained (behind q c).2 : Nat) : Int) = ((wonIn (es ++ [⟨turnOf q, gift q c, gained (behind q c).2⟩]) : Nat) : Int) := by
        rw [won_snoc]
        dsimp only
        omega
      rw [ew]
      have k9 : Kp H (upd H8 y (.ins a.A dy (nA.zip (([V.int (value p : Nat), .ref gl, .ref sl, .int (wonIn es : Nat), .int (value p : Nat)] : List V).set 3 (.int (wonIn (es ++ [⟨turnOf q, gift q c, gained (behind q c).2⟩]) : Nat)))))) := kpH y0 (k7.trans (Kp.of s8))
      have h9 : At a w (upd H8 y (.ins a.A dy (nA.zip (([V.int (value p : Nat), .ref gl, .ref sl, .int (wonIn es : Nat), .int (value p : Nat)] : List V).set 3 (.int (wonIn (es ++ [⟨turnOf q, gift q c, gained (behind q c).2⟩]) : Nat)))))) v yq q D := ⟨h8.pos.acc d1, h8.val.acc d1, h8.fine, h8.ins, h8.small⟩
      have ac9 : AccAt a.A (upd H8 y (.ins a.A dy (nA.zip (([V.int (value p : Nat), .ref gl, .ref sl, .int (wonIn es : Nat), .int (value p : Nat)] : List V).set 3 (.int (wonIn (es ++ [⟨turnOf q, gift q c, gained (behind q c).2⟩]) : Nat)))))) y gl sl (value p : Nat) (wonIn (es ++ [⟨turnOf q, gift q c, gained (behind q c).2⟩]) : Nat) (value p : Nat) (givenBy 0 (es ++ [⟨turnOf q, gift q c, gained (behind q c).2⟩])) (givenBy 1 (es ++ [⟨turnOf q, gift q c, gained (behind q c).2⟩])) (gifts (es ++ [⟨turnOf q, gift q c, gained (behind q c).2⟩])) := by
        refine ⟨dy, upd_same, ?_, ?_, a4⟩
        · rw [upd_ne (ne_of (s8 _ _ c2) d1 fun z => by cases z)]; exact s8 _ _ c2
        · rw [upd_ne (ne_of (s8 _ _ c3) d1 fun z => by cases z)]; exact s8 _ _ c3
      generalize upd H8 y (.ins a.A dy (nA.zip (([V.int (value p : Nat), .ref gl, .ref sl, .int (wonIn es : Nat), .int (value p : Nat)] : List V).set 3 (.int (wonIn (es ++ [⟨turnOf q, gift q c, gained (behind q c).2⟩]) : Nat))))) = H9 at k9 h9 ac9 ⊢
      refine ⟨_, rfl, _, rfl, rfl, yq, q, c, rfl, h9.pos, h9.fine.n4, h9.hund, h9.fine.tk, fun y10 H10 s10 a10 => ?_⟩
      obtain ⟨F', hh⟩ := h9.fine.behind (legal_sub cm)
      refine ⟨es ++ [⟨turnOf q, gift q c, gained (behind q c).2⟩], (behind q c).1, y10, _, _, ?_, ?_, ?_, k9.trans (Kp.of s10), ⟨a10, h9.val.same s10, F', h9.ins.behind h9.fine c, h9.small⟩, ac9.same s10, rfl⟩
      · rw [take_more hc]
        exact account_snoc _ _ _ _ _ ea cm
      · rw [List.length_append, List.length_singleton, el]
      · omega
    · rw [decide_eq_false cm]
      refine iteT ?_
      refine qN H4 k4 h4.val ?_
      have e : l = l.take i ++ c :: l.drop (i + 1) := by
        have := List.take_append_drop i l
        rw [List.drop_eq_getElem_cons hlt] at this
        rw [← (List.getElem?_eq_some_iff.mp hc).2]
        exact this.symm
      rw [e]
      exact account_fail _ _ _ _ _ _ ea cm
  · obtain ⟨es, q, yq, z1, z2, ea, el, hq, k3, h3, ac3, rfl⟩ := g
    rw [nv_len, List.take_length] at ea
    rw [nv_len] at el
    obtain ⟨vx4, d4, kn4, f1, f2, f3⟩ := id h3.val
    refine ⟨_, rfl, v, vx4, _, rfl, f1, _, rfl, rfl, v, yq, q, D, rfl, h3, by omega, fun H4 k4 v4 => ?_⟩
    obtain ⟨dy, a1, a2, a3, a4⟩ := ac3.kp k4
    refine ⟨_, rfl, y, dy, _, rfl, a1, (by decide : 4 < 5), ?_⟩
    refine ⟨_, rfl, qS _ es q y gl sl (kpH y0 (k3.trans k4)) (v4.acc a1) ea el ⟨dy, upd_same, ?_, ?_, a4⟩⟩
    · rw [upd_ne (ne_of a2 a1 fun z => by cases z)]; exact a2
    · rw [upd_ne (ne_of a3 a1 fun z => by cases z)]; exact a3
end
end Lt
/-! # LtX1: refusals, and the small defs of calls.py -/
namespace Lt
open PySem PySem.Spec PyProof.Rows L2
open Vbbraf (handOf turnOf held toCome legal suitOf behind gained isCard counted)
/-- the refusal with a code -/
def Rf (a : Ads) (H : Hp) (k : Int) (E : XK) : Prop := ∀ d H', Same H H' → H' d = some (.xd [(("code" : Str), .int k)]) → E (.ref a.R) (some d) H'
structure RfA (P : Program) (w : World) (K : PySem.W.Frag) (mg : Str → Option Value) (base : Heap) (a : Ads) : Prop where
  ex : ∃ (f : Addr) (fd : FuncData), PySem.W.findIn K (.ref a.R) "__init__" = some (some (.ref f)) ∧ PySem.W.typeIn K (.ref f) = some (.type "function") ∧ FnOk P w K mg base CX0 1 f fd ["self", "code"] (spRefI a.R) ∧ Binds K fd ["self", "code"] []
section
variable {P : Program} {w : World} {K : PySem.W.Frag} {mg : Str → Option Value} {base : Heap} {a : Ads}
theorem ok_ref (D : DnR K a.R s_Refused_init) (T : Txt K mg a) : RfA P w K mg base a := by
  obtain ⟨f, fd, h1, h2, F⟩ := D.ex
  refine ⟨f, fd, h1, h2, F.ok sc_Refused_init (fun vs H Q E h => ?_) fun cdv A outer s H vs Q E hr h => ⟨_, (pss_cons (ps_expr (pe_einit (by rfl) T.m_Exception T.vE (pv 0)))
      (pss_one (ps_refSet (pv 0) (pv 1)))), ?_⟩, F.binds fun _ _ _ _ _ _ us hl => match us, hl with | [_, _], _ => rfl⟩
  · obtain ⟨x, y, rfl, _⟩ := h
    rfl
  · obtain ⟨x, y, rfl, hx, q⟩ := h
    exact ⟨_, rfl, x, a.R, rfl, T.ref, hx, _, rfl, _, rfl, x, a.R, rfl, T.ref, T.noc, hx, q⟩
def sp_allow (a : Ads) : Sp := fun vs H Q E => vs.length = 2 ∧ ∃ c k, vs = [.bl c, .int k] ∧ (c = true → Q .non H) ∧ (c = false → Rf a H k E)
theorem ok_allow (D : Dn K mg "allow" s_allow) (T : Txt K mg a) (R : RfA P w K mg base a) : FnA P w K mg base (L2.CX P w) 3 "allow" (sp_allow a) := by
  obtain ⟨fI, fd, i1, i2, F, B⟩ := R.ex
  refine D.okX sc_allow (fun _ _ _ _ _ _ us hl => match us, hl with | [_, _], _ => rfl) (fun _ _ _ _ h => h.1) fun f cdv A outer s H vs Q E hr h => ⟨_, (pss_one (ps_if (pt_not (pt_val (pv 0))) (pss_one (L2.ps_raise rfl (L2.takes_of rfl rfl rfl rfl) (pmk_ref (k := 1) T.ref i1 i2 F hr B pass0 (by rfl) T.gR (pv 1)))) pss_nil)), ?_⟩
  obtain ⟨_, c, k, rfl, q1, q2⟩ := h
  refine ⟨_, rfl, ?_⟩
  cases c with
  | true => exact ⟨_, rfl, q1 rfl⟩
  | false => exact ⟨_, rfl, _, rfl, fun d H' hd s' e => q2 rfl d H' s' e⟩
theorem isCard_iff (z : Int) : isCard z = (decide (0 ≤ z) && decide (z ≤ 51)) := rfl
def sp_allow_card (a : Ads) : Sp := fun vs H Q E => vs.length = 1 ∧ ∃ z : Int, vs = [.int z] ∧ (isCard z = true → Q .non H) ∧ (isCard z = false → Rf a H (-1) E)
theorem ok_allow_card (D : Dn K mg "allow_card" s_allow_card) (T : Txt K mg a) (F_allow : FnA P w K mg base (L2.CX P w) 3 "allow" (sp_allow a)) : FnA P w K mg base (L2.CX P w) 4 "allow_card" (sp_allow_card a) := by
  refine D.okX sc_allow_card (fun _ _ _ _ _ _ us hl => match us, hl with | [_], _ => rfl) (fun _ _ _ _ h => h.1) fun f cdv A outer s H vs Q E hr h => ⟨_, (pss_one (ps_expr (pcx F_allow hr (by decide) (takes_of rfl rfl rfl rfl) (pa_cons (pe_chain op_le op_le pe_int (pv 0) (pgc T.g_LAST_CARD)) (pa_cons (pe_un un_neg pe_int) pa_nil))))), ?_⟩
  obtain ⟨_, z, rfl, q1, q2⟩ := h
  refine ⟨_, rfl, _, _, rfl, rfl, _, rfl, ?_⟩
  by_cases c : (0 : Int) ≤ z
  · rw [if_pos (decide_eq_true c)]
    refine ⟨_, _, rfl, rfl, _, rfl, rfl, _, _, rfl, fun e => q1 ?_, fun e => q2 ?_⟩
    · rw [isCard_iff, decide_eq_true c, e]; rfl
    · rw [isCard_iff, decide_eq_true c, e]; rfl
  · rw [if_neg (fun z => c (of_decide_eq_true z))]
    refine ⟨_, rfl, rfl, _, _, rfl, fun e => Bool.noConfusion e, fun _ => q2 ?_⟩
    rw [isCard_iff, decide_eq_false c]; rfl
theorem Rf.same {H H' : Hp} {k : Int} {E : XK} (s : Same H H') (h : Rf a H k E) : Rf a H' k E := fun d H2 s2 e => h d H2 (s.trans s2) e
def sp_allow_cards (a : Ads) (K : PySem.W.Frag) : Sp := fun vs H Q E => vs.length = 2 ∧ ∃ (b : Addr) (ns : List Int) (m : Nat), vs = [.ref b, .int (m : Int)] ∧ SqL K H b (ns.map V.int) ∧ ((decide (ns.length ≤ m) && ns.all isCard) = true → Q .non H) ∧ ((decide (ns.length ≤ m) && ns.all isCard) = false → Rf a H (-1) E)
theorem all_false {α : Type} {p : α → Bool} {l : List α} {x : α} (h : x ∈ l) (hp : p x = false) : l.all p = false := by
  rw [Bool.eq_false_iff]
  intro z
  rw [List.all_eq_true.mp z x h] at hp
  cases hp
theorem ok_allow_cards (D : Dn K mg "allow_cards" s_allow_cards) (T : Txt K mg a) (F_allow : FnA P w K mg base (L2.CX P w) 3 "allow" (sp_allow a)) (F_allow_card : FnA P w K mg base (L2.CX P w) 4 "allow_card" (sp_allow_card a)) :
    FnA P w K mg base (L2.CX P w) 5 "allow_cards" (sp_allow_cards a K) := by
  refine D.okX sc_allow_cards (fun _ _ _ _ _ _ us hl => match us, hl with | [_, _], _ => rfl) (fun _ _ _ _ h => h.1) fun f cdv A outer s H vs Q E hr h => ⟨_, (pss_cons (ps_expr (pcx F_allow hr (by decide) (takes_of rfl rfl rfl rfl) (pa_cons (pe_cmpR op_le (pe_callB (cl_len (K := K)) (by rfl) T.m_len PySem.boot_len (pa_cons (pv 0) pa_nil)) (pv 1) (nomark _)) (pa_cons (pe_un un_neg pe_int) pa_nil))))
      (pss_one (ps_for (passes_of rfl) rfl (pi_list (pv 0)) (pg_name (i := 2) sc_allow_cards.nd rfl (Or.inl rfl)) (pss_one (ps_expr (pcx F_allow_card hr (by decide) (takes_of rfl rfl rfl rfl) (pa_cons (pv 2) pa_nil))))))), ?_⟩
  obtain ⟨_, b, ns, m, rfl, hb, q1, q2⟩ := h
  refine ⟨_, rfl, b, _, rfl, .inl hb, _, rfl, _, _, rfl, rfl, _, rfl, rfl, _, _, rfl, fun e => ?_, fun e => q2 ?_⟩
  · refine ⟨_, rfl, b, rfl, ⟨_, hb⟩, for_list (K := K) (xs := ns.map V.int) (fun i σ H' => H' = H ∧ (∀ x ∈ ns.take i, isCard x = true) ∧ ∃ y, σ = [some (.ref b), some (.int (m : Int)), y]) ⟨rfl, by simp, none, rfl⟩ (fun i σ H' _ g => by rw [g.1]; exact hb) (fun i x σ H' hi g => ?_) (fun σ H' g => ?_)⟩
    · rw [List.getElem?_map] at hi
      cases e2 : ns[i]? with
      | none => rw [e2] at hi; cases hi
      | some z =>
        rw [e2] at hi
        have hi' := Option.some.inj hi
        subst hi'
        obtain ⟨rfl, g2, y, rfl⟩ := g
        refine ⟨_, rfl, rfl, z, rfl, fun c => ⟨rfl, fun x hx => ?_, _, rfl⟩, fun c => q2 ?_⟩
        · rw [take_more e2] at hx
          rcases List.mem_append.mp hx with hx | hx
          · exact g2 x hx
          · rw [List.mem_singleton.mp hx]; exact c
        · rw [all_false (List.mem_of_getElem? e2) c, Bool.and_false]
    · obtain ⟨rfl, g2, y, rfl⟩ := g
      refine q1 ?_
      rw [List.length_map, List.take_length] at g2
      rw [Bool.and_eq_true_iff]
      refine ⟨?_, List.all_eq_true.mpr g2⟩
      have := of_decide_eq_true e
      rw [List.length_map] at this
      exact decide_eq_true (by omega)
  · have := of_decide_eq_false e
    rw [List.length_map] at this
    rw [decide_eq_false (by omega)]
    rfl
def sp_told_cards (K : PySem.W.Frag) : Sp := fun vs H Q _ => vs.length = 1 ∧ ∃ (b : Addr) (l : List Nat), vs = [.ref b] ∧ (SqL K H b (nv l) ∨ SqT K H b (nv l)) ∧ l.length ≤ 100 ∧ ∀ p H1, Same H H1 → H1 p = none → Q (.ref p) (upd H1 p (.lst (nv (counted l))))
theorem sq_same {H H' : Hp} {b : Addr} {xs : List V} (s : Same H H') (h : SqL K H b xs ∨ SqT K H b xs) : SqL K H' b xs ∨ SqT K H' b xs := h.imp (Kp.of s).sqL (Kp.of s).sqT
theorem ok_told_cards (D : Dn K mg "told_cards" s_told_cards) (T : Txt K mg a) : FnA P w K mg base CX0 1 "told_cards" (sp_told_cards K) := by
  refine D.ok sc_told_cards (fun _ _ _ _ _ _ us hl => match us, hl with | [_], _ => rfl) (fun _ _ _ _ h => h.1) fun f cdv A outer s H vs Q E hr h => ⟨_, (pss_one (ps_ret (pe_op op_cat (pe_lst (pa_cons (pe_callB (cl_len (K := K)) (by rfl) T.m_len PySem.boot_len (pa_cons (pv 0) pa_nil)) pa_nil)) (pe_callTy (cl_list (K := K)) (by rfl) T.m_list (by decide +kernel) (pa_cons (pv 0) pa_nil))))), ?_⟩
  obtain ⟨_, b, l, rfl, hb, hl, q⟩ := h
  refine ⟨_, rfl, b, _, rfl, hb, sz 1 (by decide), fun p1 h1 => ?_⟩
  have s1 := same_new h1 (.lst [V.int ((nv l).length : Nat)])
  refine ⟨_, rfl, b, _, rfl, sq_same s1 hb, fun p2 h2 => ?_⟩
  have s2 := same_new h2 (.lst (nv l))
  refine ⟨p1, p2, _, _, rfl, rfl, s2 _ _ upd_same, upd_same, sz _ ?_, fun p h => ?_⟩
  · rw [nv_len]
    show 1 + l.length ≤ 1000
    omega
  · have := q p _ (s1.trans s2) h
    rw [show nv (counted l) = [V.int ((nv l).length : Nat)] ++ nv l by rw [nv_len]; rfl] at this
    exact this
def sp_unlike (K : PySem.W.Frag) : Sp := fun vs H Q _ => vs.length = 1 ∧ ∃ (b : Addr) (ns : List Int), vs = [.ref b] ∧ SqL K H b (ns.map V.int) ∧ ns.length ≤ 4000 ∧ Q (.bl (decide ns.Nodup)) H
theorem ok_are_unlike (D : Dn K mg "are_unlike" s_are_unlike) (T : Txt K mg a) : FnA P w K mg base CX0 1 "are_unlike" (sp_unlike K) := by
  refine D.ok sc_are_unlike (fun _ _ _ _ _ _ us hl => match us, hl with | [_], _ => rfl) (fun _ _ _ _ h => h.1) fun f cdv A outer s H vs Q E hr h => ⟨_, (pss_one (ps_ret (pe_cmpR op_eq (pe_lenSet (by rfl) T.m_len (by rfl) T.m_set (pv 0)) (pe_callB (cl_len (K := K)) (by rfl) T.m_len PySem.boot_len (pa_cons (pv 0) pa_nil)) (nomark _)))), ?_⟩
  obtain ⟨_, b, ns, rfl, hb, hl, q⟩ := h
  refine ⟨_, rfl, b, ns, rfl, hb, hl, _, rfl, b, _, rfl, .inl hb, rfl, ?_⟩
  rw [dint, List.length_map]
  have e : decide (((dedN ns : Nat) : Int) = ((ns.length : Nat) : Int)) = decide ns.Nodup := by
    rw [Bool.eq_iff_iff, decide_eq_true_eq, decide_eq_true_eq, ← ded_iff]
    omega
  rw [e]
  exact q
def sp_truth : Sp := fun vs H Q _ => vs.length = 1 ∧ ∃ c, vs = [.bl c] ∧ Q (.int ((if c = true then 1 else 0 : Nat) : Int)) H
theorem ok_truth (D : Dn K mg "truth" s_truth) (T : Txt K mg a) : FnA P w K mg base CX0 1 "truth" sp_truth := by
  refine D.ok sc_truth (fun _ _ _ _ _ _ us hl => match us, hl with | [_], _ => rfl) (fun _ _ _ _ h => h.1) fun f cdv A outer s H vs Q E hr h => ⟨_, (pss_cons (ps_if (pt_val (pv 0)) (pss_one (ps_ret pe_int)) pss_nil)
      (pss_one (ps_ret pe_int))), ?_⟩
  obtain ⟨_, c, rfl, q⟩ := h
  refine ⟨_, rfl, ?_⟩
  cases c with
  | true => exact ⟨_, rfl, if_t rfl q⟩
  | false => exact ⟨_, rfl, if_f rfl q⟩
def sp_between (K : PySem.W.Frag) : Sp := fun vs H Q _ => vs.length = 3 ∧ ∃ (b : Addr) (l : List Nat) (x y : Nat), vs = [.ref b, .int (x : Int), .int (y : Int)] ∧ SqL K H b (nv l) ∧ Q (.bl (l.any fun c => decide (min x y < c) && decide (c < max x y))) H
theorem min_cast (x y : Nat) : (if (y : Int) < (x : Int) then (y : Int) else (x : Int)) = ((min x y : Nat) : Int) := by
  split <;> omega
theorem max_cast (x y : Nat) : (if (y : Int) > (x : Int) then (y : Int) else (x : Int)) = ((max x y : Nat) : Int) := by
  split <;> omega
theorem ok_is_one_between (D : Dn K mg "is_one_between" s_is_one_between) (T : Txt K mg a) : FnA P w K mg base CX0 1 "is_one_between" (sp_between K) := by
  refine D.ok sc_is_one_between (fun _ _ _ _ _ _ us hl => match us, hl with | [_, _, _], _ => rfl) (fun _ _ _ _ h => h.1) fun f cdv A outer s H vs Q E hr h => ⟨_, (pss_cons (ps_for PassesOwn.never rfl (pi_list (pv 0)) (pg_name (i := 3) sc_is_one_between.nd rfl (Or.inl rfl)) (pss_one (ps_if (pt_chain op_lt op_lt (pe_callB (call_min2 rfl) (by rfl) T.m_min (by decide +kernel) (pa_cons (pv 1) (pa_cons (pv 2) pa_nil))) (pv 3) (pe_callB (call_max2 rfl) (by rfl) T.m_max (by decide +kernel) (pa_cons (pv 1) (pa_cons (pv 2) pa_nil)))) (pss_one (ps_ret pe_bl)) pss_nil)))
      (pss_one (ps_ret pe_bl))), ?_⟩
  obtain ⟨_, b, l, x, y, rfl, hb, q⟩ := h
  refine ⟨_, rfl, b, rfl, ⟨_, hb⟩, for_list (K := K) (xs := nv l) (fun i σ H' => H' = H ∧ (∀ c ∈ l.take i, (decide (min x y < c) && decide (c < max x y)) = false) ∧ ∃ z, σ = [some (.ref b), some (.int (x : Int)), some (.int (y : Int)), z]) ⟨rfl, by simp, none, rfl⟩ (fun i σ H' _ g => by rw [g.1]; exact hb) (fun i v σ H' hi g => ?_) (fun σ H' g => ?_)⟩
  · obtain ⟨c, hc, rfl⟩ := of_nv hi
    obtain ⟨rfl, g2, z, rfl⟩ := g
    have fin : ∀ r : Bool, r = (decide (min x y < c) && decide (c < max x y)) → if r = true then Q (.bl true) H' else (H' = H' ∧ (∀ c ∈ l.take (i + 1), (decide (min x y < c) && decide (c < max x y)) = false) ∧ ∃ z', [some (V.ref b), some (.int (x : Int)), some (.int (y : Int)), some (.int (c : Int))] = [some (V.ref b), some (.int (x : Int)), some (.int (y : Int)), z']) := fun r hr => by
      cases r with
      | true =>
        refine if_t rfl ?_
        have : (l.any fun c => decide (min x y < c) && decide (c < max x y)) = true := List.any_eq_true.mpr ⟨c, List.mem_of_getElem? hc, hr.symm⟩
        rw [this] at q
        exact q
      | false =>
        refine if_f rfl ⟨rfl, fun c' h' => ?_, _, rfl⟩
        rw [take_more hc] at h'
        rcases List.mem_append.mp h' with h' | h'
        · exact g2 c' h'
        · rw [List.mem_singleton.mp h']; exact hr.symm
    refine ⟨_, rfl, _, rfl, _, _, rfl, _, rfl, _, _, rfl, rfl, _, rfl, ?_⟩
    rw [min_cast]
    by_cases c1 : ((min x y : Nat) : Int) < (c : Int)
    · rw [if_pos (decide_eq_true c1)]
      refine ⟨_, rfl, _, rfl, _, _, rfl, _, _, rfl, rfl, _, rfl, ?_⟩
      rw [max_cast]
      refine fin _ ?_
      rw [decide_eq_true (p := min x y < c) (by omega), Bool.true_and, Bool.eq_iff_iff, decide_eq_true_eq, decide_eq_true_eq]
      omega
    · rw [if_neg (fun z => c1 (of_decide_eq_true z))]
      refine ⟨_, rfl, fin _ ?_⟩
      rw [decide_eq_false (p := min x y < c) (by omega), Bool.false_and]
  · obtain ⟨rfl, g2, z, rfl⟩ := g
    rw [nv_len, List.take_length] at g2
    have : (l.any fun c => decide (min x y < c) && decide (c < max x y)) = false := by
      rw [Bool.eq_false_iff]
      intro z
      obtain ⟨c, h1, h2⟩ := List.any_eq_true.mp z
      rw [g2 c h1] at h2
      cases h2
    rw [this] at q
    exact q
/-- the cards of the other hands, and of the trick -/
def elsewhere (p : Vbbraf.Pos) (t : Nat) (n : Nat) : List Nat := p.trick ++ (List.range n).flatMap fun s => if s = t then [] else handOf p s
theorem elsewhere_more (p : Vbbraf.Pos) (t n : Nat) : elsewhere p t (n + 1) = elsewhere p t n ++ (if n = t then [] else handOf p n) := by
  unfold elsewhere
  rw [List.range_succ, List.flatMap_append, List.flatMap_singleton, List.append_assoc]
theorem elsewhere_len {p : Vbbraf.Pos} {t : Nat} (h3 : p.trick.length ≤ 3) (h : ∀ s, (handOf p s).length ≤ 100) : ∀ n, (elsewhere p t n).length ≤ 3 + 100 * n
  | 0 => by
    show (p.trick ++ []).length ≤ _
    rw [List.append_nil]
    omega
  | n + 1 => by
    have := elsewhere_len h3 h (t := t) n
    rw [elsewhere_more, List.length_append]
    have h' := h n
    split
    · show _ + 0 ≤ _
      omega
    · omega
def sp_elsewhere (a : Ads) : Sp := fun vs H Q _ => vs.length = 2 ∧ ∃ (x : Addr) (p : Vbbraf.Pos) (t : Nat), vs = [.ref x, .int (t : Int)] ∧ PosAt a.P H x p ∧ p.hands.length = 4 ∧ p.trick.length ≤ 3 ∧ (∀ s, (handOf p s).length ≤ 100) ∧
  ∀ b H', Same H H' → H' b = some (.lst (nv (elsewhere p t 4))) → Q (.ref b) H'
theorem seats_at {i : Nat} {v : V} (h : ([.int 0, .int 1, .int 2, .int 3] : List V)[i]? = some v) : i < 4 ∧ v = .int (i : Int) := by
  match i, h with
  | 0, h => exact ⟨by decide, (Option.some.inj h).symm⟩
  | 1, h => exact ⟨by decide, (Option.some.inj h).symm⟩
  | 2, h => exact ⟨by decide, (Option.some.inj h).symm⟩
  | 3, h => exact ⟨by decide, (Option.some.inj h).symm⟩
  | n + 4, h => simp at h
theorem ok_elsewhere (D : Dn K mg "cards_elsewhere" s_cards_elsewhere) (T : Txt K mg a) : FnA P w K mg base CX0 1 "cards_elsewhere" (sp_elsewhere a) := by
  refine D.ok sc_cards_elsewhere (fun _ _ _ _ _ _ us hl => match us, hl with | [_, _], _ => rfl) (fun _ _ _ _ h => h.1) fun f cdv A outer s H vs Q E hr h => ⟨_, (pss_cons (ps_set (i := 2) sc_cards_elsewhere.nd rfl (Or.inl rfl) (pe_callTy (cl_list (K := K)) (by rfl) T.m_list (by decide +kernel) (pa_cons (pe_f 3 T.kP (pv 0)) pa_nil)))
      (pss_cons (ps_for PassesOwn.never rfl (pi_tup (pgt T.g_SEATS)) (pg_name (i := 3) sc_cards_elsewhere.nd rfl (Or.inl rfl)) (pss_one (ps_if (pt_cmpR op_ne (pv 3) (pv 1) (nomark _)) (pss_one (ps_expr (pe_bm PySem.F.plainAttrs_list PySem.F.slot_list_extend PySem.F.type_list_extend mt_extT (pv 2) (pa_cons (pe_ix (ix_tupK (K := K)) (pe_f 0 T.kP (pv 0)) (pv 3) (fun _ _ => rfl)) pa_nil)))) pss_nil)))
      (pss_one (ps_ret (pv 2))))), ?_⟩
  obtain ⟨_, x, p, t, rfl, ⟨dx, hs, tk, h1, ⟨as, ha, h2⟩, h3⟩, h4, ht, hl, q⟩ := h
  refine ⟨_, rfl, x, dx, _, _, rfl, h1, rfl, tk, _, rfl, .inr (SqT.of h3), fun l hl0 => ?_⟩
  refine fun b hb => ⟨b, rfl, ⟨_, hb _⟩, for_tup (K := K) (xs := [.int 0, .int 1, .int 2, .int 3]) (fun i σ H' => Same H H' ∧ H' l = some (.lst (nv (elsewhere p t i))) ∧ ∃ z, σ = [some (.ref x), some (.int (t : Int)), some (.ref l), z])
    ⟨same_new hl0 _, ?_, none, rfl⟩ (fun i σ H' _ g => hb H') (fun i v σ H' hi g => ?_) (fun σ H' g => ?_)⟩
  · rw [upd_same]
    show some (HO.lst (nv p.trick)) = some (HO.lst (nv (p.trick ++ [])))
    rw [List.append_nil]
  · obtain ⟨hi4, rfl⟩ := seats_at hi
    obtain ⟨g1, g2, z, rfl⟩ := g
    refine ⟨_, rfl, _, rfl, rfl, _, rfl, ?_⟩
    rw [dint]
    refine ite2 (fun c => ?_) (fun c => ?_)
    · have ne : i ≠ t := fun e => by
        rw [e] at c
        simp at c
      obtain ⟨y, e1, _, e2⟩ := hand_tup ha h2 (s := i) (by rw [h4]; exact hi4)
      refine ⟨_, rfl, .inl ⟨rfl, _, SqL.of g2⟩, _, rfl, x, dx, _, _, rfl, g1 _ _ h1, rfl, _, rfl, hs, _, _, _, rfl, rfl, SqT.of (g1 _ _ ha), e1, l, y, _, _, rfl, rfl, g2, SqT.of (g1 _ _ e2), ?_, same_upd hl0 g1 _, ?_, _, rfl⟩
      · rw [nv_len, nv_len]
        have := elsewhere_len ht hl (t := t) i
        have := hl i
        unfold handOf at this
        exact sz _ (by omega)
      · rw [upd_same, elsewhere_more, if_neg ne, nv_app]
        rfl
    · have e : i = t := by
        have : ¬ ((i : Int) ≠ (t : Int)) := fun y => c (by simp; exact fun z => y (by omega))
        omega
      refine ⟨g1, ?_, _, rfl⟩
      rw [elsewhere_more, if_pos e, List.append_nil]
      exact g2
  · obtain ⟨g1, g2, z, rfl⟩ := g
    exact ⟨_, rfl, q l H' g1 g2⟩
def higher (c : Nat) (l : List Nat) : List Nat := l.filter fun d => suitOf d == suitOf c && decide (c < d)
def sp_sqz : Sp := fun vs H Q _ => vs.length = 2 ∧ ∃ (b : Addr) (c : Nat) (l : List Nat), vs = [.int (c : Int), .ref b] ∧ H b = some (.lst (nv l)) ∧ l.length ≤ 500 ∧ ∀ H', Same H H' → Q (.int (13 * (suitOf c : Int) + 13 - 1 - ((higher c l).length : Int))) H'
theorem ok_squeezed_card (D : Dn K mg "squeezed_card" s_squeezed_card) (T : Txt K mg a) (F_suit_of : FnA P w K mg base CX0 1 "suit_of" sp_suit_of) : FnA P w K mg base CX0 2 "squeezed_card" sp_sqz := by
  refine D.ok sc_squeezed_card (fun _ _ _ _ _ _ us hl => match us, hl with | [_, _], _ => rfl) (fun _ _ _ _ h => h.1) fun f cdv A outer s H vs Q E hr h => ⟨_, (pss_cons (ps_setLc (i := 2) (own := [("other", 3)]) (g := gName 3) rfl sc_squeezed_card.nd rfl rfl (sw_true rfl rfl rfl (by decide +kernel)) (pi_list (pv 1)) (blkOk_by (own := [("other", 3)]) (N := N_squeezed_card) (sc := defScope s_squeezed_card) (by decide +kernel)) (fun _ _ _ _ _ => pg_name (i := 3) sc_squeezed_card.nd rfl (Or.inl rfl)) (fun _ _ _ _ _ => (pts_one (pw_and (pt_cmpR op_eq (pc F_suit_of hr (by decide) (pa_cons (pv 3) pa_nil)) (pc F_suit_of hr (by decide) (pa_cons (pv 0) pa_nil)) (nomark _)) (pw_and1 (pt_cmpR op_gt (pv 3) (pv 0) (nomark _)))).pt)) (fun _ _ _ _ _ => (pv 3)))
      (pss_one (ps_ret (pe_op op_sub (pe_op op_sub (pe_op op_add (pe_op op_mul (pgc T.g_SUIT_LENGTH) (pc F_suit_of hr (by decide) (pa_cons (pv 0) pa_nil))) (pgc T.g_SUIT_LENGTH)) pe_int) (pe_callB (cl_len (K := K)) (by rfl) T.m_len PySem.boot_len (pa_cons (pv 2) pa_nil)))))), ?_⟩
  obtain ⟨_, b, c, l, rfl, hb, hl, q⟩ := h
  refine ⟨_, rfl, b, rfl, ⟨_, SqL.of hb⟩, fun r hr0 => ?_⟩
  refine lc_list (K := K) (xs := nv l) (fun i H' => Same H H' ∧ H' r = some (.lst (nv (higher c (l.take i))))) ⟨same_new hr0 _, upd_same⟩ (fun i H' _ g => SqL.of (g.1 _ _ hb)) (fun i y H' hi g => ?_) (fun H' g => ?_)
  · obtain ⟨n, hn, rfl⟩ := of_nv hi
    have cond : (suitOf n == suitOf c && decide (c < n)) = true ∨ (suitOf n == suitOf c && decide (c < n)) = false := by cases (suitOf n == suitOf c && decide (c < n)) <;> simp
    have step := filter_take (p := fun d => suitOf d == suitOf c && decide (c < d)) hn
    have fin : ∀ (bb : Bool), bb = (suitOf n == suitOf c && decide (c < n)) → if bb = true then (∃ v, [some (V.int (c : Int)), some (V.ref b), none, some (V.int (n : Int))][3]? = some (some v) ∧ ∃ acc, H' r = some (.lst acc) ∧ acc.length < sizeLine ∧ (Same H (upd H' r (.lst (acc ++ [v]))) ∧ (upd H' r (.lst (acc ++ [v]))) r = some (.lst (nv (higher c (l.take (i + 1))))))) else (Same H H' ∧ H' r = some (.lst (nv (higher c (l.take (i + 1)))))) := fun bb hbb => by
      cases bb with
      | true =>
        refine if_t rfl ⟨_, rfl, _, g.2, ?_, same_upd hr0 g.1 _, ?_⟩
        · rw [nv_len]
          refine szl _ ?_
          have := List.length_filter_le (fun d => suitOf d == suitOf c && decide (c < d)) (l.take i)
          rw [List.length_take] at this
          unfold higher
          omega
        · rw [upd_same]
          unfold higher
          rw [step, if_pos hbb.symm, nv_app]
          rfl
      | false =>
        refine if_f rfl ⟨g.1, ?_⟩
        rw [g.2]
        unfold higher
        rw [step, if_neg (by rw [← hbb]; exact Bool.false_ne_true), List.append_nil]
    refine ⟨rfl, ?_⟩
    refine ⟨_, rfl, rfl, n, rfl, _, rfl, rfl, c, rfl, rfl, _, rfl, ?_⟩
    rw [dint]
    have e1 : decide (((suitOf n : Nat) : Int) = ((suitOf c : Nat) : Int)) = (suitOf n == suitOf c) := by
      rw [Bool.eq_iff_iff]; simp [Int.ofNat_inj]
    rw [e1]
    by_cases z : (suitOf n == suitOf c) = true
    · refine if_t z ⟨_, rfl, _, rfl, _, _, rfl, rfl, _, rfl, fin _ ?_⟩
      rw [z, Bool.true_and, Bool.eq_iff_iff, decide_eq_true_eq, decide_eq_true_eq]
      omega
    · have z' : (suitOf n == suitOf c) = false := by rw [Bool.eq_false_iff]; exact z
      exact if_f z' (fin false (by rw [z']; rfl))
  · obtain ⟨g1, g2⟩ := g
    rw [nv_len, List.take_length] at g2
    refine ⟨_, rfl, rfl, c, rfl, _, _, rfl, rfl, .inl ⟨by decide, by decide⟩, _, _, rfl, rfl, _, _, rfl, rfl, _, rfl, r, _, rfl, .inl (SqL.of g2), _, _, rfl, rfl, ?_⟩
    rw [nv_len]
    exact q H' g1
/-- a state of the list -/
def StAt (a : Ads) (H : Hp) (x : Addr) (p : Vbbraf.Pos) (w0 w1 : Nat) : Prop := ∃ dx ps wn, H x = some (.ins a.S dx (nS.zip [.ref ps, .ref wn])) ∧ PosAt a.P H ps p ∧ H wn = some (.tup [.int (w0 : Int), .int (w1 : Int)])
theorem StAt.kp {H H' : Hp} {x : Addr} {p : Vbbraf.Pos} {w0 w1 : Nat} (k : Kp H H') (h : StAt a H x p w0 w1) : StAt a H' x p w0 w1 :=
  let ⟨dx, ps, wn, h1, h2, h3⟩ := h
  ⟨dx, ps, wn, k _ _ h1 trivial, h2.kp k, k _ _ h3 trivial⟩
def lostBy (w : Option Nat) : Nat := match w with
  | some s => s % 2
  | none => 0
def sp_won_after (a : Ads) : Sp := fun vs H Q _ => vs.length = 2 ∧ ∃ (x : Addr) (p : Vbbraf.Pos) (w0 w1 c : Nat), vs = [.ref x, .int (c : Int)] ∧ StAt a H x p w0 w1 ∧ p.trick.length ≤ 3 ∧
  ∀ t H', Same H H' → H' t = some (.tup [.int ((w0 + gained (behind p c).2 : Nat) : Int), .int ((w1 + lostBy (behind p c).2 : Nat) : Int)]) → Q (.ref t) H'
theorem ok_won_after (D : Dn K mg "won_after" s_won_after) (T : Txt K mg a) (F_side_of_trick : FnA P w K mg base CX0 4 "side_of_trick" (sp_side_of_trick a)) : FnA P w K mg base CX0 5 "won_after" (sp_won_after a) := by
  refine D.ok sc_won_after (fun _ _ _ _ _ _ us hl => match us, hl with | [_, _], _ => rfl) (fun _ _ _ _ h => h.1) fun f cdv A outer s H vs Q E hr h => ⟨_, (pss_cons (ps_set (i := 2) sc_won_after.nd rfl (Or.inl rfl) (pc F_side_of_trick hr (by decide) (pa_cons (pe_f 0 T.kS (pv 0)) (pa_cons (pv 1) pa_nil))))
      (pss_cons (ps_if (pt_cmpR op_eq (pv 2) pe_int (nomark _)) (pss_one (ps_ret (pe_tup (pa_cons (pe_op op_add (pe_ix (ix_tupK (K := K)) (pe_f 1 T.kS (pv 0)) pe_int (fun _ _ => rfl)) pe_int) (pa_cons (pe_ix (ix_tupK (K := K)) (pe_f 1 T.kS (pv 0)) pe_int (fun _ _ => rfl)) pa_nil))))) pss_nil)
      (pss_cons (ps_if (pt_cmpR op_eq (pv 2) pe_int (nomark _)) (pss_one (ps_ret (pe_tup (pa_cons (pe_ix (ix_tupK (K := K)) (pe_f 1 T.kS (pv 0)) pe_int (fun _ _ => rfl)) (pa_cons (pe_op op_add (pe_ix (ix_tupK (K := K)) (pe_f 1 T.kS (pv 0)) pe_int (fun _ _ => rfl)) pe_int) pa_nil))))) pss_nil)
      (pss_one (ps_ret (pe_f 1 T.kS (pv 0))))))), ?_⟩
  obtain ⟨_, x, p, w0, w1, c, rfl, ⟨dx, ps, wn, h1, h2, h3⟩, ht, q⟩ := h
  refine ⟨_, rfl, x, dx, _, _, rfl, h1, rfl, _, rfl, rfl, ps, p, c, rfl, h2, ht, fun H1 s1 => ?_⟩
  unfold sideV
  cases e : (behind p c).2 with
  | none =>
    rw [e] at q
    refine ⟨_, rfl, rfl, _, rfl, if_f rfl ⟨_, rfl, rfl, _, rfl, if_f rfl ⟨_, rfl, x, dx, _, _, rfl, s1 _ _ h1, rfl, q wn H1 s1 (s1 _ _ h3)⟩⟩⟩
  | some m =>
    rw [e] at q
    refine ⟨_, rfl, rfl, _, rfl, ?_⟩
    rw [dint]
    have hm : m % 2 = 0 ∨ m % 2 = 1 := by omega
    rcases hm with hm | hm
    · refine if_t (decide_eq_true (by omega)) ?_
      refine ⟨_, rfl, x, dx, _, _, rfl, s1 _ _ h1, rfl, wn, _, 0, _, rfl, rfl, SqT.of (s1 _ _ h3), rfl, _, _, rfl, rfl, _, rfl, x, dx, _, _, rfl, s1 _ _ h1, rfl, wn, _, 1, _, rfl, rfl, SqT.of (s1 _ _ h3), rfl, sz 2 (by decide), fun t ht' => ?_⟩
      refine q t _ (s1.trans (same_new ht' _)) ?_
      rw [upd_same]
      show some (HO.tup [.int ((w0 : Int) + 1), .int (w1 : Int)]) = some (HO.tup [.int ((w0 + (if m % 2 = 0 then 1 else 0) : Nat) : Int), .int ((w1 + m % 2 : Nat) : Int)])
      rw [hm]
      rfl
    · refine if_f (decide_eq_false (by omega)) ?_
      refine ⟨_, rfl, rfl, _, rfl, ?_⟩
      rw [dint]
      refine if_t (decide_eq_true (by omega)) ?_
      refine ⟨_, rfl, x, dx, _, _, rfl, s1 _ _ h1, rfl, wn, _, 0, _, rfl, rfl, SqT.of (s1 _ _ h3), rfl, _, rfl, x, dx, _, _, rfl, s1 _ _ h1, rfl, wn, _, 1, _, rfl, rfl, SqT.of (s1 _ _ h3), rfl, _, _, rfl, rfl, sz 2 (by decide), fun t ht' => ?_⟩
      refine q t _ (s1.trans (same_new ht' _)) ?_
      rw [upd_same]
      show some (HO.tup [.int (w0 : Int), .int ((w1 : Int) + 1)]) = some (HO.tup [.int ((w0 + (if m % 2 = 0 then 1 else 0) : Nat) : Int), .int ((w1 + m % 2 : Nat) : Int)])
      rw [hm]
      rfl
end
end Lt
/-! # LtX2: the ending, and what its calls are to do -/
namespace Lt
open PySem PySem.Spec PyProof.Rows L2
open Vbbraf (State handOf turnOf held toCome legal value valueBy behind gained playedBy dealt yes no step counted line)
def stAt (s : State) (i : Nat) : State := (s.played.take i).foldl playedBy (dealt s.first)
theorem stAt_now {s : State} (G : Good s) : stAt s s.played.length = s := by
  unfold stAt
  rw [List.take_length]
  exact G.is.is.symm
/-- the ending at e: its list of states, its list of cards, its valuer -/
structure EndIs (a : Ads) (w : World) (H : Hp) (e : Addr) (s : State) (de sl pl v : Addr) (as : List Addr) : Prop where
  he : H e = some (.ins a.E de (nE.zip [.ref sl, .ref pl, .ref v]))
  hs : H sl = some (.lst (as.map V.ref))
  hp : H pl = some (.lst (nv s.played))
  ne : sl ≠ pl
  len : as.length = s.played.length + 1
  sts : ∀ i x, as[i]? = some x → StAt a H x (stAt s i).now (stAt s i).won (stAt s i).lost
  val : ValAt a.V w s.first.hands H v
  good : Good s
def EndAt (a : Ads) (w : World) (H : Hp) (e : Addr) (s : State) : Prop := ∃ de sl pl v as, EndIs a w H e s de sl pl v as
/-- the ending and its two lists: all else is kept -/
def Mine (a : Ads) (H : Hp) (e b : Addr) : Prop := b = e ∨ ∃ de sl pl v, H e = some (.ins a.E de (nE.zip [.ref sl, .ref pl, .ref v])) ∧ (b = sl ∨ b = pl)
def Fr (a : Ads) (e : Addr) (H H' : Hp) : Prop := ∀ b o, H b = some o → NoExt o → ¬ Mine a H e b → H' b = some o ∧ ¬ Mine a H' e b
theorem Fr.refl (a : Ads) (e : Addr) (H : Hp) : Fr a e H H := fun _ _ h _ m => ⟨h, m⟩
theorem Fr.trans {a : Ads} {e : Addr} {H H1 H2 : Hp} (f : Fr a e H H1) (g : Fr a e H1 H2) : Fr a e H H2 := fun b o h n m =>
  let ⟨h1, m1⟩ := f b o h n m
  g b o h1 n m1
theorem Fr.of {a : Ads} {e : Addr} {H H' : Hp} (k : Kp H H') {o : HO} (he : H e = some o) (n : NoExt o) : Fr a e H H' := fun b u h m z => ⟨k b u h m, fun y => z (by
  rcases y with y | ⟨de, sl, pl, v, y1, y2⟩
  · exact .inl y
  · rw [k e o he n, ← he] at y1
    exact .inr ⟨de, sl, pl, v, y1, y2⟩)⟩
section
variable {a : Ads} {w : World} {H H' : Hp} {e : Addr} {s : State} {de sl pl v : Addr} {as : List Addr}
theorem EndIs.fr (h : EndIs a w H e s de sl pl v as) (k : Kp H H') : Fr a e H H' := Fr.of k h.he trivial
theorem EndIs.kp (h : EndIs a w H e s de sl pl v as) (k : Kp H H') (hv : ValAt a.V w s.first.hands H' v) : EndIs a w H' e s de sl pl v as :=
  ⟨k _ _ h.he trivial, k _ _ h.hs trivial, k _ _ h.hp trivial, h.ne, h.len, fun i x e => (h.sts i x e).kp k, hv, h.good⟩
theorem EndIs.same (h : EndIs a w H e s de sl pl v as) (k : Same H H') : EndIs a w H' e s de sl pl v as := h.kp (Kp.of k) (h.val.same k)
theorem EndAt.same (h : EndAt a w H e s) (k : Same H H') : EndAt a w H' e s := let ⟨de, sl, pl, v, as, h⟩ := h; ⟨de, sl, pl, v, as, h.same k⟩
theorem Good.small4 {s : State} (G : Good s) : Small s.first.hands := ⟨G.fine.n4, G.small⟩
theorem EndIs.at (h : EndIs a w H e s de sl pl v as) {x : Addr} (hx : PosAt a.P H x s.now) : At a w H v x s.now s.first.hands := ⟨hx, h.val, h.good.now, h.good.is.ins, h.good.small4⟩
theorem EndIs.few (h : EndIs a w H e s de sl pl v as) : held s.now < 17 := by
  have := h.good.held
  omega
theorem EndIs.last (h : EndIs a w H e s de sl pl v as) : ∃ x, as[s.played.length]? = some x ∧ StAt a H x s.now s.won s.lost := by
  have hl : s.played.length < as.length := by rw [h.len]; omega
  refine ⟨as[s.played.length], List.getElem?_eq_getElem hl, ?_⟩
  have := h.sts _ _ (List.getElem?_eq_getElem hl)
  rw [stAt_now h.good] at this
  exact this
theorem EndIs.lastI (h : EndIs a w H e s de sl pl v as) : ∃ x, atI (as.map V.ref) (-1) = some (.ref x) ∧ StAt a H x s.now s.won s.lost := by
  obtain ⟨x, e1, e2⟩ := h.last
  refine ⟨x, ?_, e2⟩
  unfold atI ixN
  rw [if_neg (by decide), if_pos (by rw [List.length_map, h.len]; omega)]
  show (as.map V.ref)[((-1 : Int) + ((as.map V.ref).length : Nat)).toNat]? = _
  have : ((-1 : Int) + ((as.map V.ref).length : Nat)).toNat = s.played.length := by rw [List.length_map, h.len]; omega
  rw [this, List.getElem?_map, e1]
  rfl
theorem EndIs.vx (h : EndIs a w H e s de sl pl v as) : ∃ dx d, H v = some (.ins a.V dx (nV.zip [.ref d])) := let ⟨dx, d, _, h1, _⟩ := h.val; ⟨dx, d, h1⟩
/-- a call is answered: what then holds -/
def Yes (a : Ads) (w : World) (H : Hp) (e : Addr) (r : State × List Int) (Q : VK) : Prop := ∀ p H1, Fr a e H H1 → EndAt a w H1 e r.1 → H1 p = none → Q (.ref p) (upd H1 p (.lst (r.2.map V.int)))
/-- a call is refused -/
def No (a : Ads) (w : World) (H : Hp) (e : Addr) (s : State) (r : State × List Int) (E : XK) : Prop := ∀ k d H', r = (s, [k]) → Fr a e H H' → EndAt a w H' e s → H' d = some (.xd [(("code" : Str), .int k)]) → E (.ref a.R) (some d) H'
theorem yes_nv (s : State) (l : List Nat) : ((yes s l).2).map V.int = nv (0 :: l) := by
  show V.int 0 :: (l.map fun (n : Nat) => (n : Int)).map V.int = V.int ((0 : Nat) : Int) :: nv l
  rw [← nv_ints]
  rfl
theorem Yes.use {r : State × List Int} {Q : VK} {l : List Nat} (q : Yes a w H e r Q) (hr : r = yes s l) (h : EndIs a w H e s de sl pl v as) {H1 : Hp} (k : Kp H H1) (hv : ValAt a.V w s.first.hands H1 v) {p : Addr} (hp : H1 p = none) : Q (.ref p) (upd H1 p (.lst (nv (0 :: l)))) := by
  have := q p H1 (h.fr k) (by rw [hr]; exact ⟨de, sl, pl, v, as, h.kp k hv⟩) hp
  rw [hr, yes_nv] at this
  exact this
theorem No.use {E : XK} {r : State × List Int} {k : Nat} (q : No a w H e s r E) (hr : r = no s k) (h : EndIs a w H e s de sl pl v as) {H1 : Hp} (kp : Kp H H1) (hv : ValAt a.V w s.first.hands H1 v) : Rf a H1 (-(k : Int)) E := fun d H' s1 hd =>
  q _ d H' hr (h.fr (kp.trans (Kp.of s1))) ⟨de, sl, pl, v, as, (h.kp kp hv).same s1⟩ hd
theorem cat_nv {H : Hp} {l b : Addr} {xs ys : List Nat} {Q : VK} (h1 : H l = some (.lst (nv xs))) (h2 : H b = some (.lst (nv ys))) (hl : xs.length + ys.length ≤ 1000) (q : ∀ p, H p = none → Q (.ref p) (upd H p (.lst (nv (xs ++ ys))))) : rCat (.ref l) (.ref b) H Q :=
  ⟨l, b, _, _, rfl, rfl, h1, h2, sz _ (by rw [nv_len, nv_len]; exact hl), fun p hp => by rw [← nv_app]; exact q p hp⟩
end
/-- use_rec, for any wish of the new instance -/
theorem use_recR {C : Addr} {names : List Str} {vs : List V} {H : Hp} {R : Addr → Hp → Prop} (hl : vs.length = names.length) (q : ∀ x H', H x = none → Same H H' → (∃ dx, H' x = some (.ins C dx (names.zip vs))) → R x H') :
    ∀ x dx, H x = none → H dx = none → dx ≠ x → spRec C names (.ref x :: vs) (upd (upd H dx (.own x)) x (.ins C dx [])) (fun v H2 => v = .non ∧ R x H2) E0 := fun x dx hx hd ne => by
  refine ⟨x, dx, vs, rfl, hl, upd_same, rfl, ?_⟩
  rw [upd_upd]
  exact q x _ hx (same_made hx hd) ⟨dx, upd_same⟩
theorem use_ValuerR {c : Addr} {w : World} {H : Hp} {R : Addr → Hp → Prop} (D : List (List Nat)) (q : ∀ v dx d H', H v = none → H dx = none → H d = none → d ≠ v → Same H H' → H' v = some (.ins c dx (nV.zip [.ref d])) → H' d = some (knO w d []) → ValAt c w D H' v → R v H') :
    ∀ v dx, H v = none → H dx = none → dx ≠ v → sp_Valuer c w [.ref v] (upd (upd H dx (.own v)) v (.ins c dx [])) (fun y H2 => y = .non ∧ R v H2) E0 := fun v dx hv hdx ne => by
  obtain ⟨h1, v', dx', e1, e2, k⟩ := use_Valuer (Q := fun x H' => ∀ u, x = .ref u → R u H') D (fun v dx d H' z1 z2 z3 z4 z5 z6 z7 z8 u hu => by cases hu; exact q v dx d H' z1 z2 z3 z4 z5 z6 z7 z8) v dx hv hdx ne
  exact ⟨h1, v', dx', e1, e2, fun d hd => ⟨(k d hd).1, (k d hd).2 v rfl⟩⟩
/-- all but one is kept -/
def Ex (e : Addr) (H H' : Hp) : Prop := ∀ b o, H b = some o → b ≠ e → H' b = some o
theorem Ex.trans {e : Addr} {H H1 H2 : Hp} (f : Ex e H H1) (g : Ex e H1 H2) : Ex e H H2 := fun b o h n => g b o (f b o h n) n
theorem Ex.of {e : Addr} {H H' : Hp} (s : Same H H') : Ex e H H' := fun b o h _ => s b o h
theorem Ex.upd {e : Addr} {H : Hp} (o : HO) : Ex e H (upd H e o) := fun b u h n => by rw [upd_ne n]; exact h
section
variable {P : Program} {w : World} {K : PySem.W.Frag} {mg : Str → Option Value} {base : Heap} {a : Ads}
def sp_Ending (a : Ads) (w : World) : Sp := fun vs H Q _ => vs.length = 1 ∧ ∃ e de, vs = [.ref e] ∧ H e = some (.ins a.E de []) ∧ ∀ H' sl pl v as, (∀ b o, H b = some o → b ≠ e → H' b = some o) → H sl = none → H pl = none → EndIs a w H' e Vbbraf.start de sl pl v as → Q .non H'
theorem ok_Ending (D : DnK K mg "Ending" a.E "Ending.__init__" s_Ending_init) (T : Txt K mg a) (K_P : MkA P w K mg base 1 "Position" a.P (spRec a.P nP)) (K_S : MkA P w K mg base 1 "State" a.S (spRec a.S nS)) (K_V : MkA P w K mg base 1 "Valuer" a.V (sp_Valuer a.V w)) :
    MkA P w K mg base 3 "Ending" a.E (sp_Ending a w) := by
  refine D.ok sc_Ending_init (fun _ _ _ _ _ _ us hl => match us, hl with | [_], _ => rfl) (fun _ _ _ _ h => h.1) fun f cdv A outer s H vs Q E hr h => ⟨_, (pss_cons (ps_fNew 0 T.kE (pv 0) (pe_lst (pa_cons (pmk K_S hr (by decide) (pa_cons (pmk K_P hr (by decide) (pa_cons (pe_tup (pa_cons (pe_tup pa_nil) (pa_cons (pe_tup pa_nil) (pa_cons (pe_tup pa_nil) (pa_cons (pe_tup pa_nil) pa_nil))))) (pa_cons (pgc T.g_NO_TRUMP) (pa_cons pe_int (pa_cons (pe_tup pa_nil) pa_nil))))) (pa_cons (pe_tup (pa_cons pe_int (pa_cons pe_int pa_nil))) pa_nil))) pa_nil)))
      (pss_cons (ps_fNew 1 T.kE (pv 0) (pe_lst pa_nil))
      (pss_one (ps_fNew 2 T.kE (pv 0) (pmk0 K_V hr (by decide)))))), ?_⟩
  obtain ⟨_, e, de, rfl, he, q⟩ := h
  refine ⟨sz 0 (by decide), fun p1 h1 => ⟨sz 0 (by decide), fun p2 h2 => ⟨sz 0 (by decide), fun p3 h3 => ⟨sz 0 (by decide), fun p4 h4 => ⟨sz 4 (by decide), fun p5 h5 => ⟨sz 0 (by decide), fun p6 h6 => ?_⟩⟩⟩⟩⟩⟩
  refine use_recR rfl fun ps H7 hps s7 ⟨d7, e7⟩ => ?_
  refine ⟨sz 2 (by decide), fun p8 h8 => ?_⟩
  refine use_recR rfl fun x9 H9 hx9 s9 ⟨d9, e9⟩ => ?_
  refine ⟨sz 1 (by decide), fun sl hsl => ?_⟩
  have E1 := same_new h1 (.tup []) _ _ he
  have E2 := same_new h2 (.tup []) _ _ E1
  have E3 := same_new h3 (.tup []) _ _ E2
  have E4 := same_new h4 (.tup []) _ _ E3
  have E5 := same_new h5 (.tup [.ref p1, .ref p2, .ref p3, .ref p4]) _ _ E4
  have E6 := same_new h6 (.tup []) _ _ E5
  have E7 := s7 _ _ E6
  have E8 := same_new h8 (.tup [.int 0, .int 0]) _ _ E7
  have E9 := s9 _ _ E8
  have n1 := ne_of_none he h1
  have n2 := ne_of_none E1 h2
  have n3 := ne_of_none E2 h3
  have n4 := ne_of_none E3 h4
  have n5 := ne_of_none E4 h5
  have n6 := ne_of_none E5 h6
  have n7 := ne_of_none E6 hps
  have n8 := ne_of_none E7 h8
  have n9 := ne_of_none E8 hx9
  have nsl := ne_of_none E9 hsl
  have s89 : Same _ H9 := (same_new h8 _).trans s9
  have s79 := s7.trans s89
  have s69 := (same_new h6 (.tup [])).trans s79
  have s59 := (same_new h5 (.tup [.ref p1, .ref p2, .ref p3, .ref p4])).trans s69
  have s49 := (same_new h4 (.tup [])).trans s59
  have s39 := (same_new h3 (.tup [])).trans s49
  have s29 := (same_new h2 (.tup [])).trans s39
  have s19 := (same_new h1 (.tup [])).trans s29
  have F1 : H9 p1 = some (.tup []) := s29 _ _ upd_same
  have F2 : H9 p2 = some (.tup []) := s39 _ _ upd_same
  have F3 : H9 p3 = some (.tup []) := s49 _ _ upd_same
  have F4 : H9 p4 = some (.tup []) := s59 _ _ upd_same
  have F5 : H9 p5 = some (.tup [.ref p1, .ref p2, .ref p3, .ref p4]) := s69 _ _ upd_same
  have F6 : H9 p6 = some (.tup []) := s79 _ _ upd_same
  have F7 := s89 _ _ e7
  have F8 : H9 p8 = some (.tup [.int 0, .int 0]) := s9 _ _ upd_same
  have ea : (upd H9 sl (.lst [.ref x9])) e = some (.ins a.E de []) := (same_new hsl _) _ _ E9
  refine ⟨_, rfl, e, de, [], rfl, ea, rfl, ?_⟩
  refine ⟨sz 0 (by decide), fun pl hpl => ?_⟩
  have npe : e ≠ pl := ne_of_none upd_same hpl
  have nps : sl ≠ pl := fun z => by rw [← z, upd_ne (Ne.symm nsl), upd_same] at hpl; cases hpl
  have hpl9 : H9 pl = none := by rw [upd_ne (Ne.symm npe), upd_ne (Ne.symm nps)] at hpl; exact hpl
  refine ⟨_, rfl, e, de, [.ref sl], rfl, (by rw [upd_ne npe, upd_same]; rfl), rfl, ?_⟩
  refine use_ValuerR (Vbbraf.start.first.hands) fun v dx d H10 hv hdx hd hdv s10 v1 v2 v3 => ?_
  have eb := s10 _ _ (upd_same)
  refine ⟨_, rfl, e, de, [.ref sl, .ref pl], rfl, eb, rfl, ?_⟩
  have nve : e ≠ v := ne_of_none upd_same hv
  have k : Ex e H9 (upd H10 e (.ins a.E de (nE.zip ([.ref sl, .ref pl] ++ [.ref v])))) := (((((Ex.of (same_new hsl _)).trans (Ex.upd _)).trans (Ex.of (same_new hpl _))).trans (Ex.upd _)).trans (Ex.of s10)).trans (Ex.upd _)
  have kh : Ex e H (upd H10 e (.ins a.E de (nE.zip ([.ref sl, .ref pl] ++ [.ref v])))) := (Ex.of s19).trans k
  have hs' : (upd H10 e (.ins a.E de (nE.zip ([.ref sl, .ref pl] ++ [.ref v])))) sl = some (.lst [.ref x9]) := by
    rw [upd_ne (Ne.symm nsl)]
    refine s10 _ _ ?_
    rw [upd_ne (Ne.symm nsl), upd_ne nps, upd_ne (Ne.symm nsl), upd_same]
  have hp' : (upd H10 e (.ins a.E de (nE.zip ([.ref sl, .ref pl] ++ [.ref v])))) pl = some (.lst []) := by
    rw [upd_ne (Ne.symm npe)]
    refine s10 _ _ ?_
    rw [upd_ne (Ne.symm npe), upd_same]
  have val : ValAt a.V w Vbbraf.start.first.hands (upd H10 e (.ins a.E de (nE.zip ([.ref sl, .ref pl] ++ [.ref v])))) v := ⟨dx, d, [], by rw [upd_ne (Ne.symm nve)]; exact v1, by rw [upd_ne (fun z => by rw [z] at v2; rw [eb] at v2; cases v2)]; exact v2, KnOk.nil⟩
  have he' : (upd H10 e (.ins a.E de (nE.zip ([.ref sl, .ref pl] ++ [.ref v])))) e = some (.ins a.E de (nE.zip [.ref sl, .ref pl, .ref v])) := upd_same
  generalize upd H10 e (.ins a.E de (nE.zip ([.ref sl, .ref pl] ++ [.ref v]))) = Hf at k kh hs' hp' val he' ⊢
  refine q Hf sl pl v [x9] kh (s19.free hsl) (s19.free hpl9) ⟨he', hs', hp', nps, rfl, fun i x hi => ?_, val, good_start⟩
  match i, hi with
  | 0, hi =>
    have hi' : x9 = x := Option.some.inj hi
    subst hi'
    exact ⟨d9, ps, p8, k _ _ e9 (Ne.symm n9), ⟨d7, p5, p6, k _ _ F7 (Ne.symm n7), ⟨[p1, p2, p3, p4], k _ _ F5 (Ne.symm n5), k _ _ F1 (Ne.symm n1), k _ _ F2 (Ne.symm n2), k _ _ F3 (Ne.symm n3), k _ _ F4 (Ne.symm n4), trivial⟩, k _ _ F6 (Ne.symm n6)⟩, k _ _ F8 (Ne.symm n8)⟩
  | n + 1, hi => simp at hi
theorem use_Ending {H : Hp} {R : Addr → Hp → Prop} (q : ∀ e H', H e = none → Same H H' → EndAt a w H' e Vbbraf.start → (∀ b o, H b = some o → ¬ Mine a H' e b) → R e H') :
    ∀ e de, H e = none → H de = none → de ≠ e → sp_Ending a w [.ref e] (upd (upd H de (.own e)) e (.ins a.E de [])) (fun y H2 => y = .non ∧ R e H2) E0 := fun e de he hde ne => by
  refine ⟨rfl, e, de, rfl, upd_same, fun H' sl pl v as k h1 h2 h => ⟨rfl, ?_⟩⟩
  have s : Same H H' := fun b o z => k b o (same_made he hde b o z) (ne_of_none z he)
  refine q e H' he s ⟨de, sl, pl, v, as, h⟩ fun b o z m => ?_
  rcases m with m | ⟨de', sl', pl', v', m1, m2⟩
  · rw [m, he] at z; cases z
  · have := h.he
    rw [this] at m1
    cases m1
    have back : ∀ c, (upd (upd H de (.own e)) e (.ins a.E de [])) c = none → H c = none := fun c hc => by
      cases z2 : H c with
      | none => rfl
      | some u => rw [same_made he hde c u z2] at hc; cases hc
    rcases m2 with m2 | m2
    · rw [m2, back _ h1] at z; cases z
    · rw [m2, back _ h2] at z; cases z
def sp_dealt (a : Ads) (w : World) : Sp := fun vs H Q _ => vs.length = 1 ∧ ∃ e s de sl pl v as, vs = [.ref e] ∧ EndIs a w H e s de sl pl v as ∧ ∀ x, PosAt a.P H x s.first → Q (.ref x) H
theorem ok_dealt (D : DnM K a.E "dealt" "Ending.dealt" s_Ending_dealt) (T : Txt K mg a) : MtA P w K mg base 1 a.E "dealt" (sp_dealt a w) := by
  refine D.ok sc_Ending_dealt (fun _ _ _ _ _ _ us hl => match us, hl with | [_], _ => rfl) (fun _ _ _ _ h => h.1) fun f cdv A outer s H vs Q E hr h => ⟨_, (pss_one (ps_ret (pe_f 0 T.kS (pe_ix (ix_listK (K := K)) (pe_f 0 T.kE (pv 0)) pe_int (fun _ _ => rfl))))), ?_⟩
  obtain ⟨_, e, s, de, sl, pl, v, as, rfl, h, q⟩ := h
  have h0 : 0 < as.length := by rw [h.len]; omega
  obtain ⟨dx, ps, wn, e1, e2, e3⟩ := h.sts 0 as[0] (List.getElem?_eq_getElem h0)
  exact ⟨_, rfl, e, de, _, _, rfl, h.he, rfl, sl, _, 0, _, rfl, rfl, SqL.of h.hs, atI_nat (by rw [List.getElem?_map, List.getElem?_eq_getElem h0]; rfl), _, dx, _, _, rfl, e1, rfl, q ps e2⟩
def sp_present (a : Ads) (w : World) : Sp := fun vs H Q _ => vs.length = 1 ∧ ∃ e s de sl pl v as, vs = [.ref e] ∧ EndIs a w H e s de sl pl v as ∧ ∀ x, PosAt a.P H x s.now → Q (.ref x) H
theorem ok_present (D : DnM K a.E "present" "Ending.present" s_Ending_present) (T : Txt K mg a) : MtA P w K mg base 1 a.E "present" (sp_present a w) := by
  refine D.ok sc_Ending_present (fun _ _ _ _ _ _ us hl => match us, hl with | [_], _ => rfl) (fun _ _ _ _ h => h.1) fun f cdv A outer s H vs Q E hr h => ⟨_, (pss_one (ps_ret (pe_f 0 T.kS (pe_ix (ix_listK (K := K)) (pe_f 0 T.kE (pv 0)) (pe_un un_neg pe_int) (fun _ _ => rfl))))), ?_⟩
  obtain ⟨_, e, s, de, sl, pl, v, as, rfl, h, q⟩ := h
  obtain ⟨x, i1, dx, ps, wn, e1, e2, e3⟩ := h.lastI
  exact ⟨_, rfl, e, de, _, _, rfl, h.he, rfl, _, rfl, sl, _, _, _, rfl, rfl, SqL.of h.hs, i1, _, dx, _, _, rfl, e1, rfl, q ps e2⟩
def sp_won_now (a : Ads) (w : World) : Sp := fun vs H Q _ => vs.length = 1 ∧ ∃ e s de sl pl v as, vs = [.ref e] ∧ EndIs a w H e s de sl pl v as ∧ ∀ p, H p = none → Q (.ref p) (upd H p (.lst (nv [s.won, s.lost])))
theorem ok_won_now (D : DnM K a.E "won_now" "Ending.won_now" s_Ending_won_now) (T : Txt K mg a) : MtA P w K mg base 1 a.E "won_now" (sp_won_now a w) := by
  refine D.ok sc_Ending_won_now (fun _ _ _ _ _ _ us hl => match us, hl with | [_], _ => rfl) (fun _ _ _ _ h => h.1) fun f cdv A outer s H vs Q E hr h => ⟨_, (pss_one (ps_ret (pe_callTy (cl_list (K := K)) (by rfl) T.m_list (by decide +kernel) (pa_cons (pe_f 1 T.kS (pe_ix (ix_listK (K := K)) (pe_f 0 T.kE (pv 0)) (pe_un un_neg pe_int) (fun _ _ => rfl))) pa_nil)))), ?_⟩
  obtain ⟨_, e, s, de, sl, pl, v, as, rfl, h, q⟩ := h
  obtain ⟨x, i1, dx, ps, wn, e1, e2, e3⟩ := h.lastI
  exact ⟨_, rfl, e, de, _, _, rfl, h.he, rfl, _, rfl, sl, _, _, _, rfl, rfl, SqL.of h.hs, i1, _, dx, _, _, rfl, e1, rfl, wn, _, rfl, .inr (SqT.of e3), q⟩
def sp_turn_numbers (a : Ads) (w : World) : Sp := fun vs H Q _ => vs.length = 1 ∧ ∃ e s de sl pl v as, vs = [.ref e] ∧ EndIs a w H e s de sl pl v as ∧ ∀ p H1, Same H H1 → H1 p = none → Q (.ref p) (upd H1 p (.lst (nv [turnOf s.now, s.won, s.lost])))
theorem ok_turn_numbers (D : Dn K mg "turn_numbers" s_turn_numbers) (T : Txt K mg a) (F_seat_on_turn : FnA P w K mg base CX0 1 "seat_on_turn" (sp_seat_on_turn a)) (M_present : MtA P w K mg base 1 a.E "present" (sp_present a w)) (M_won_now : MtA P w K mg base 1 a.E "won_now" (sp_won_now a w)) :
    FnA P w K mg base CX0 2 "turn_numbers" (sp_turn_numbers a w) := by
  refine D.ok sc_turn_numbers (fun _ _ _ _ _ _ us hl => match us, hl with | [_], _ => rfl) (fun _ _ _ _ h => h.1) fun f cdv A outer s H vs Q E hr h => ⟨_, (pss_one (ps_ret (pe_op op_cat (pe_lst (pa_cons (pc F_seat_on_turn hr (by decide) (pa_cons (pm0 (names := nE) M_present hr (by decide) (by decide) (pv 0)) pa_nil)) pa_nil)) (pm0 (names := nE) M_won_now hr (by decide) (by decide) (pv 0))))), ?_⟩
  obtain ⟨_, e, s, de, sl, pl, v, as, rfl, h, q⟩ := h
  refine ⟨_, rfl, e, de, _, rfl, h.he, rfl, e, s, de, sl, pl, v, as, rfl, h, fun x hx => ?_⟩
  refine ⟨rfl, x, s.now, rfl, hx, sz 1 (by decide), fun p1 h1 => ?_⟩
  have s1 := same_new h1 (.lst (nv [turnOf s.now]))
  refine ⟨_, rfl, e, de, _, rfl, s1 _ _ h.he, rfl, e, s, de, sl, pl, v, as, rfl, h.same s1, fun p2 h2 => ?_⟩
  exact cat_nv (xs := [turnOf s.now]) (same_new h2 _ _ _ upd_same) upd_same (by show 1 + 2 ≤ 1000; decide) fun p hp => q p _ (s1.trans (same_new h2 _)) hp
/-- a call without arguments -/
def sp_c0 (a : Ads) (w : World) (c : Vbbraf.Call) : Sp := fun vs H Q _ => vs.length = 1 ∧ ∃ e s de sl pl v as, vs = [.ref e] ∧ EndIs a w H e s de sl pl v as ∧ Yes a w H e (step s c) Q
theorem ok_turn (D : Dn K mg "turn" s_turn) (T : Txt K mg a) (F_turn_numbers : FnA P w K mg base CX0 2 "turn_numbers" (sp_turn_numbers a w)) (F_told_cards : FnA P w K mg base CX0 1 "told_cards" (sp_told_cards K)) (F_playable : FnA P w K mg base CX0 3 "playable" (sp_playable a))
    (M_present : MtA P w K mg base 1 a.E "present" (sp_present a w)) : FnA P w K mg base CX0 4 "turn" (sp_c0 a w .turn) := by
  refine D.ok sc_turn (fun _ _ _ _ _ _ us hl => match us, hl with | [_], _ => rfl) (fun _ _ _ _ h => h.1) fun f cdv A outer s H vs Q E hr h => ⟨_, (pss_one (ps_ret (pe_op op_cat (pe_op op_cat (pe_lst (pa_cons pe_int pa_nil)) (pc F_turn_numbers hr (by decide) (pa_cons (pv 0) pa_nil))) (pc F_told_cards hr (by decide) (pa_cons (pc F_playable hr (by decide) (pa_cons (pm0 (names := nE) M_present hr (by decide) (by decide) (pv 0)) pa_nil)) pa_nil))))), ?_⟩
  obtain ⟨_, e, s, de, sl, pl, v, as, rfl, h, q⟩ := h
  refine ⟨sz 1 (by decide), fun p1 h1 => ?_⟩
  have s1 := same_new h1 (.lst (nv [0]))
  refine ⟨_, rfl, rfl, e, s, de, sl, pl, v, as, rfl, h.same s1, fun p2 H2 s2 h2 => ?_⟩
  have s02 := (s1.trans s2).trans (same_new h2 (.lst (nv [turnOf s.now, s.won, s.lost])))
  refine cat_nv (xs := [0]) (same_new h2 _ _ _ (s2 _ _ upd_same)) upd_same (by show 1 + 3 ≤ 1000; decide) fun p3 h3 => ?_
  have s03 := s02.trans (same_new h3 (.lst (nv ([0] ++ [turnOf s.now, s.won, s.lost]))))
  refine ⟨_, rfl, e, de, _, rfl, s03 _ _ h.he, rfl, e, s, de, sl, pl, v, as, rfl, h.same s03, fun x hx => ?_⟩
  have ha := (h.same s03).at hx
  refine ⟨rfl, x, s.now, rfl, hx, ha.fine.n4, ha.hund, fun b H4 s4 b4 => ?_⟩
  have hle := legal_len s.now
  have := ha.four
  refine ⟨rfl, b, _, rfl, .inr (SqT.of b4), by omega, fun p5 H5 s5 h5 => ?_⟩
  have s05 := (s03.trans s4).trans s5
  refine cat_nv (xs := [0] ++ [turnOf s.now, s.won, s.lost]) (same_new h5 _ _ _ (s5 _ _ (s4 _ _ upd_same))) upd_same ?_ fun p hp => ?_
  · show 4 + ((legal s.now).length + 1) ≤ 1000
    omega
  have s06 := s05.trans (same_new h5 (.lst (nv (counted (legal s.now)))))
  exact q.use (l := turnOf s.now :: s.won :: s.lost :: counted (legal s.now)) rfl h (Kp.of s06) (h.val.same s06) hp
end
end Lt
/-! # LtX3: the calls that look at all plays -/
namespace Lt
open PySem PySem.Spec PyProof.Rows L2
open Vbbraf (State handOf turnOf held toCome legal value valueBy behind gained playedBy dealt yes no step counted line isCard nats)
section
variable {P : Program} {w : World} {K : PySem.W.Frag} {mg : Str → Option Value} {base : Heap} {a : Ads}
theorem ok_cvalue (D : Dn K mg "value" s_value) (T : Txt K mg a) (M_value : MtA P w K mg base 57 a.V "value" (sp_value a w 17)) (M_present : MtA P w K mg base 1 a.E "present" (sp_present a w)) : FnA P w K mg base CX0 58 "value" (sp_c0 a w .value) := by
  refine D.ok sc_value (fun _ _ _ _ _ _ us hl => match us, hl with | [_], _ => rfl) (fun _ _ _ _ h => h.1) fun f cdv A outer s H vs Q E hr h => ⟨_, (pss_one (ps_ret (pe_lst (pa_cons pe_int (pa_cons (pm (names := nV) M_value hr (by decide) (by decide) (pe_f 2 T.kE (pv 0)) (pa_cons (pm0 (names := nE) M_present hr (by decide) (by decide) (pv 0)) pa_nil)) pa_nil))))), ?_⟩
  obtain ⟨_, e, s, de, sl, pl, v, as, rfl, h, q⟩ := h
  obtain ⟨vx, d, hv⟩ := h.vx
  refine ⟨_, rfl, e, de, _, _, rfl, h.he, rfl, v, vx, _, rfl, hv, _, rfl, e, de, _, rfl, h.he, rfl, e, s, de, sl, pl, v, as, rfl, h, fun x hx => ?_⟩
  refine ⟨rfl, v, x, s.now, _, rfl, h.at hx, h.few, fun H1 k1 v1 => ⟨sz 2 (by decide), fun p hp => ?_⟩⟩
  exact q.use (l := [value s.now]) rfl h k1 v1 hp
theorem len_le (s : State) (G : Good s) : (legal s.now).length ≤ 4 := by
  have h1 := legal_len s.now
  have h2 := G.is.ins.small G.small4 (turnOf s.now)
  omega
theorem ok_cards (D : Dn K mg "cards_with_values" s_cards_with_values) (T : Txt K mg a) (F_playable : FnA P w K mg base CX0 3 "playable" (sp_playable a)) (M_value_by : MtA P w K mg base 55 a.V "value_by" (sp_by a w 17)) (M_present : MtA P w K mg base 1 a.E "present" (sp_present a w)) :
    FnA P w K mg base CX0 56 "cards_with_values" (sp_c0 a w .cards) := by
  refine D.ok sc_cards_with_values (fun _ _ _ _ _ _ us hl => match us, hl with | [_], _ => rfl) (fun _ _ _ _ h => h.1) fun f cdv A outer s H vs Q E hr h => ⟨_, (pss_cons (ps_set (i := 1) sc_cards_with_values.nd rfl (Or.inl rfl) (pm0 (names := nE) M_present hr (by decide) (by decide) (pv 0)))
      (pss_cons (ps_set (i := 2) sc_cards_with_values.nd rfl (Or.inl rfl) (pe_lst (pa_cons (pe_callB (cl_len (K := K)) (by rfl) T.m_len PySem.boot_len (pa_cons (pc F_playable hr (by decide) (pa_cons (pv 1) pa_nil)) pa_nil)) pa_nil)))
      (pss_cons (ps_for PassesOwn.never rfl (pi_tup (pc F_playable hr (by decide) (pa_cons (pv 1) pa_nil))) (pg_name (i := 3) sc_cards_with_values.nd rfl (Or.inl rfl)) (pss_one (ps_expr (pe_bm PySem.F.plainAttrs_list PySem.F.slot_list_extend PySem.F.type_list_extend mt_extend (pv 2) (pa_cons (pe_lst (pa_cons (pv 3) (pa_cons (pm (names := nV) M_value_by hr (by decide) (by decide) (pe_f 2 T.kE (pv 0)) (pa_cons (pv 1) (pa_cons (pv 3) pa_nil))) pa_nil))) pa_nil)))))
      (pss_one (ps_ret (pe_op op_cat (pe_lst (pa_cons pe_int pa_nil)) (pv 2))))))), ?_⟩
  obtain ⟨_, e, s, de, sl, pl, v, as, rfl, h, q⟩ := h
  refine ⟨_, rfl, e, de, _, rfl, h.he, rfl, e, s, de, sl, pl, v, as, rfl, h, fun x hx => ?_⟩
  have ha := h.at hx
  have h4 := len_le s h.good
  refine ⟨_, rfl, rfl, x, s.now, rfl, hx, ha.fine.n4, ha.hund, fun b H1 s1 b1 => ⟨b, _, rfl, .inr (SqT.of b1), sz 1 (by show 1 ≤ 1000; decide), fun l hl => ?_⟩⟩
  have s2 := s1.trans (same_new hl (.lst [V.int ((nv (legal s.now)).length : Nat)]))
  have l0 := s1.free hl
  refine ⟨_, rfl, rfl, x, s.now, rfl, hx.same s2, ha.fine.n4, ha.hund, fun b3 H3 s3 b3' => ?_⟩
  have s03 := s2.trans s3
  have L3 : H3 l = some (.lst (nv ((legal s.now).length :: (([] : List Nat).flatMap fun c => [c, valueBy s.now c])))) := by
    refine s3 _ _ ?_
    rw [upd_same, nv_len]
    rfl
  refine ⟨b3, rfl, ⟨_, SqT.of b3'⟩, for_tup (K := K) (xs := nv (legal s.now)) (fun i σ H' => Kp H H' ∧ ValAt a.V w s.first.hands H' v ∧ H' b3 = some (.tup (nv (legal s.now))) ∧ H' l = some (.lst (nv ((legal s.now).length :: (((legal s.now).take i).flatMap fun c => [c, valueBy s.now c])))) ∧ ∃ z, σ = [some (.ref e), some (.ref x), some (.ref l), z])
    ⟨Kp.of s03, h.val.same s03, b3', L3, none, rfl⟩ (fun i σ H' _ g => SqT.of g.2.2.1) (fun i y σ H' hi g => ?_) (fun σ H' g => ?_)⟩
  · obtain ⟨c, hc, rfl⟩ := of_nv hi
    obtain ⟨g1, g2, g3, g4, z, rfl⟩ := g
    have hm := List.mem_of_getElem? hc
    have hlt : i < (legal s.now).length := (List.getElem?_eq_some_iff.mp hc).1
    have h' := h.kp g1 g2
    obtain ⟨vx, d, hv⟩ := h'.vx
    refine ⟨_, rfl, .inl ⟨rfl, _, SqL.of g4⟩, _, rfl, _, rfl, e, de, _, _, rfl, h'.he, rfl, v, vx, _, rfl, hv, _, rfl, _, rfl, rfl, v, x, s.now, _, c, rfl, h'.at (hx.kp g1), hm, h.few, fun H5 k5 v5 => ⟨sz 2 (by decide), fun b6 h6 => ?_⟩⟩
    have L5 := same_new h6 (.lst [V.int (c : Int), V.int (valueBy s.now c : Nat)]) _ _ (k5 _ _ g4 trivial)
    refine ⟨l, b6, _, _, rfl, rfl, L5, upd_same, ?_, kp_new l0 ((g1.trans k5).trans (Kp.of (same_new h6 _))), (v5.same (same_new h6 _)).lst L5, ?_, ?_, _, rfl⟩
    · rw [nv_len, List.length_cons, List.length_flatMap]
      refine sz _ ?_
      show ((((legal s.now).take i).map fun c => 2).sum + 1) + 2 ≤ 1000
      have : ∀ m : List Nat, (m.map fun _ => 2).sum = 2 * m.length := fun m => by
        induction m with
        | nil => rfl
        | cons a r ih => rw [List.map_cons, List.sum_cons, ih, List.length_cons]; omega
      rw [this, List.length_take]
      omega
    · exact keep_lst L5 _ _ (same_new h6 _ _ _ (k5 _ _ g3 trivial)) fun ys z => by cases z
    · rw [upd_same, take_more hc, List.flatMap_append, List.flatMap_singleton, ← List.cons_append, nv_app]
      rfl
  · obtain ⟨g1, g2, g3, g4, z, rfl⟩ := g
    rw [nv_len, List.take_length] at g4
    refine ⟨sz 1 (by decide), fun p1 h1 => ⟨_, rfl, ?_⟩⟩
    refine cat_nv (xs := [0]) upd_same (same_new h1 _ _ _ g4) ?_ fun p hp => ?_
    · rw [List.length_cons, List.length_cons, List.length_flatMap]
      show 0 + 1 + (((legal s.now).map fun c => 2).sum + 1) ≤ 1000
      have : ∀ m : List Nat, (m.map fun _ => 2).sum = 2 * m.length := fun m => by
        induction m with
        | nil => rfl
        | cons a r ih => rw [List.map_cons, List.sum_cons, ih, List.length_cons]; omega
      rw [this]
      omega
    · exact q.use (l := (legal s.now).length :: (legal s.now).flatMap fun c => [c, valueBy s.now c]) rfl h (g1.trans (Kp.of (same_new h1 _))) (g2.same (same_new h1 _)) hp
theorem ok_cline (D : Dn K mg "line" s_line) (T : Txt K mg a) (F_told_cards : FnA P w K mg base CX0 1 "told_cards" (sp_told_cards K)) (M_best_line : MtA P w K mg base 60 a.V "best_line" (sp_bline a w)) (M_present : MtA P w K mg base 1 a.E "present" (sp_present a w)) :
    FnA P w K mg base CX0 61 "line" (sp_c0 a w .line) := by
  refine D.ok sc_line (fun _ _ _ _ _ _ us hl => match us, hl with | [_], _ => rfl) (fun _ _ _ _ h => h.1) fun f cdv A outer s H vs Q E hr h => ⟨_, (pss_one (ps_ret (pe_op op_cat (pe_lst (pa_cons pe_int pa_nil)) (pc F_told_cards hr (by decide) (pa_cons (pm (names := nV) M_best_line hr (by decide) (by decide) (pe_f 2 T.kE (pv 0)) (pa_cons (pm0 (names := nE) M_present hr (by decide) (by decide) (pv 0)) pa_nil)) pa_nil))))), ?_⟩
  obtain ⟨_, e, s, de, sl, pl, v, as, rfl, h, q⟩ := h
  refine ⟨sz 1 (by decide), fun p1 h1 => ?_⟩
  have s1 := same_new h1 (.lst (nv [0]))
  have h' := h.same s1
  obtain ⟨vx, d, hv⟩ := h'.vx
  refine ⟨_, rfl, e, de, _, _, rfl, h'.he, rfl, v, vx, _, rfl, hv, _, rfl, e, de, _, rfl, h'.he, rfl, e, s, de, sl, pl, v, as, rfl, h', fun x hx => ?_⟩
  refine ⟨rfl, v, x, s.now, _, rfl, h'.at hx, h.few, fun H2 r k2 v2 hr2 => ?_⟩
  have hl := line_len (held s.now) s.now
  have hf := h.few
  refine ⟨rfl, r, _, rfl, .inl (SqL.of hr2), ?_, fun p3 H3 s3 h3 => ?_⟩
  · show (Vbbraf.lineIn (held s.now) s.now).length ≤ 100
    omega
  have k3 : Kp H (upd H3 p3 (.lst (nv (counted (line s.now))))) := (((Kp.of s1).trans k2).trans (Kp.of s3)).trans (Kp.of (same_new h3 _))
  refine cat_nv (xs := [0]) (same_new h3 _ _ _ (s3 _ _ (k2 _ _ upd_same trivial))) upd_same ?_ fun p hp => ?_
  · show 1 + ((Vbbraf.lineIn (held s.now) s.now).length + 1) ≤ 1000
    omega
  · exact q.use (l := counted (line s.now)) rfl h k3 ((v2.same s3).same (same_new h3 _)) hp
theorem first_at {H : Hp} {e : Addr} {s : State} {de sl pl v : Addr} {as : List Addr} (h : EndIs a w H e s de sl pl v as) {x : Addr} (hx : PosAt a.P H x s.first) : At a w H v x s.first s.first.hands :=
  ⟨hx, h.val, h.good.fine, ⟨Subs.refl _, h.good.fine.tr, h.good.fine.ld⟩, h.good.small4⟩
theorem ok_past (D : Dn K mg "past" s_past) (T : Txt K mg a) (F_account_of : FnA P w K mg base CX0 59 "account_of" (sp_account_of a w K)) (M_dealt : MtA P w K mg base 1 a.E "dealt" (sp_dealt a w)) (M_as_numbers : MtA P w K mg base 1 a.A "as_numbers" (sp_asnum a)) :
    FnA P w K mg base CX0 60 "past" (sp_c0 a w .past) := by
  refine D.ok sc_past (fun _ _ _ _ _ _ us hl => match us, hl with | [_], _ => rfl) (fun _ _ _ _ h => h.1) fun f cdv A outer s H vs Q E hr h => ⟨_, (pss_one (ps_ret (pe_op op_cat (pe_lst (pa_cons pe_int pa_nil)) (pm0 (names := nA) M_as_numbers hr (by decide) (by decide) (pc F_account_of hr (by decide) (pa_cons (pe_f 2 T.kE (pv 0)) (pa_cons (pm0 (names := nE) M_dealt hr (by decide) (by decide) (pv 0)) (pa_cons (pe_f 1 T.kE (pv 0)) pa_nil)))))))), ?_⟩
  obtain ⟨_, e, s, de, sl, pl, v, as, rfl, h, q⟩ := h
  refine ⟨sz 1 (by decide), fun p1 h1 => ?_⟩
  have s1 := same_new h1 (.lst (nv [0]))
  have h' := h.same s1
  refine ⟨_, rfl, e, de, _, _, rfl, h'.he, rfl, _, rfl, e, de, _, rfl, h'.he, rfl, e, s, de, sl, pl, v, as, rfl, h', fun x hx => ?_⟩
  refine ⟨_, rfl, e, de, _, _, rfl, h'.he, rfl, ?_⟩
  obtain ⟨es, ea⟩ := h.good.is.acc
  have h16 := held_first h.good.fine h.good.small
  have hpl := h.good.held
  refine ⟨rfl, v, x, s.first, _, pl, s.played, rfl, first_at h' hx, by omega, SqL.of h'.hp, by omega, fun H2 k2 v2 e2 => ?_, fun H2 es' q' y gl gsl k2 v2 e2 l2 ac => ?_⟩
  · rw [ea] at e2; cases e2
  rw [ea] at e2
  cases e2
  obtain ⟨dy, a1, a2, a3, a4⟩ := id ac
  refine ⟨y, dy, _, rfl, a1, rfl, y, gl, gsl, _, _, _, _, _, _, rfl, ac, ?_, fun r H3 s3 r3 => ?_⟩
  · unfold gifts
    rw [List.length_map]
    omega
  have k3 := ((Kp.of s1).trans k2).trans (Kp.of s3)
  refine cat_nv (xs := [0]) (ys := Vbbraf.told s.first es s.now) (s3 _ _ (k2 _ _ upd_same trivial)) r3 ?_ fun p hp => ?_
  · show 1 + ((es.map fun e => e.gift).length + 5) ≤ 1000
    rw [List.length_map]
    omega
  · refine q.use (l := Vbbraf.told s.first es s.now) ?_ h k3 (v2.same s3) hp
    show (match Vbbraf.account s.first s.played with
      | none => no s 6
      | some (x, q) => yes s (Vbbraf.told s.first x q)) = _
    rw [ea]
theorem nv_nats {ns : List Int} (h : ns.all isCard = true) : nv (nats ns) = ns.map V.int := by
  unfold nv nats
  rw [List.map_map]
  refine List.map_congr_left fun z hz => ?_
  have := List.all_eq_true.mp h z hz
  rw [isCard_iff, Bool.and_eq_true_iff] at this
  have h0 := of_decide_eq_true this.1
  show V.int ((z.toNat : Nat) : Int) = V.int z
  rw [Int.toNat_of_nonneg h0]
def sp_caccount (a : Ads) (w : World) (K : PySem.W.Frag) : Sp := fun vs H Q E => vs.length = 2 ∧ ∃ e s de sl pl v as b ns, vs = [.ref e, .ref b] ∧ EndIs a w H e s de sl pl v as ∧ SqL K H b (ns.map V.int) ∧ Yes a w H e (step s (.account ns)) Q ∧ No a w H e s (step s (.account ns)) E
theorem ok_caccount (D : Dn K mg "account" s_account) (T : Txt K mg a) (F_allow : FnA P w K mg base (L2.CX P w) 3 "allow" (sp_allow a)) (F_allow_cards : FnA P w K mg base (L2.CX P w) 5 "allow_cards" (sp_allow_cards a K)) (F_account_of : FnA P w K mg base CX0 59 "account_of" (sp_account_of a w K))
    (M_present : MtA P w K mg base 1 a.E "present" (sp_present a w)) (M_as_numbers : MtA P w K mg base 1 a.A "as_numbers" (sp_asnum a)) : FnA P w K mg base (L2.CX P w) 60 "account" (sp_caccount a w K) := by
  refine D.okX sc_account (fun _ _ _ _ _ _ us hl => match us, hl with | [_, _], _ => rfl) (fun _ _ _ _ h => h.1) fun f cdv A outer s H vs Q E hr h => ⟨_, (pss_cons (ps_expr (pcx F_allow_cards hr (by decide) (takes_of rfl rfl rfl rfl) (pa_cons (pv 1) (pa_cons (pgc T.g_MOST_IN_ROW) pa_nil))))
      (pss_cons (ps_set (i := 2) sc_account.nd rfl (Or.inl rfl) (pc F_account_of hr (by decide) (pa_cons (pe_f 2 T.kE (pv 0)) (pa_cons (pm0 (names := nE) M_present hr (by decide) (by decide) (pv 0)) (pa_cons (pv 1) pa_nil)))))
      (pss_cons (ps_expr (pcx F_allow hr (by decide) (takes_of rfl rfl rfl rfl) (pa_cons (pe_cmp (pc_notN (pv 2))) (pa_cons (pe_un un_neg pe_int) pa_nil))))
      (pss_one (ps_ret (pe_op op_cat (pe_lst (pa_cons pe_int pa_nil)) (pm0 (names := nA) M_as_numbers hr (by decide) (by decide) (pv 2)))))))), ?_⟩
  obtain ⟨_, e, s, de, sl, pl, v, as, b, ns, rfl, h, hb, q, n⟩ := h
  have st : step s (.account ns) = if (decide (ns.length ≤ 16) && ns.all isCard) = false then no s 1 else match Vbbraf.account s.now (nats ns) with
      | none => no s 6
      | some (x, q) => yes s (Vbbraf.told s.now x q) := rfl
  refine ⟨_, rfl, rfl, b, ns, 16, rfl, hb, fun c => ?_, fun c => ?_⟩
  · rw [if_neg (by rw [c]; exact Bool.noConfusion)] at st
    rw [Bool.and_eq_true_iff] at c
    have c1 := of_decide_eq_true c.1
    have enl : (nats ns).length = ns.length := List.length_map _
    refine ⟨_, rfl, e, de, _, _, rfl, h.he, rfl, _, rfl, e, de, _, rfl, h.he, rfl, e, s, de, sl, pl, v, as, rfl, h, fun x hx => ⟨_, rfl, ?_⟩⟩
    refine ⟨rfl, v, x, s.now, _, b, nats ns, rfl, h.at hx, h.few, ?_, ?_, fun H2 k2 v2 e2 => ?_, fun H2 es q' y gl gsl k2 v2 e2 l2 ac => ?_⟩
    · rw [nv_nats c.2]
      exact hb
    · rw [enl]
      omega
    · rw [e2] at st
      exact ⟨_, rfl, _, rfl, rfl, _, _, rfl, fun z => Bool.noConfusion z, fun _ => n.use st h k2 v2⟩
    · rw [e2] at st
      refine ⟨_, rfl, _, rfl, rfl, _, _, rfl, fun _ => ?_, fun z => Bool.noConfusion z⟩
      refine ⟨sz 1 (by decide), fun p1 h1 => ?_⟩
      have s1 := same_new h1 (.lst (nv [0]))
      have ac' := ac.same s1
      obtain ⟨dy, a1, a2, a3, a4⟩ := id ac'
      refine ⟨_, rfl, y, dy, _, rfl, a1, rfl, y, gl, gsl, _, _, _, _, _, _, rfl, ac', ?_, fun r H3 s3 r3 => ?_⟩
      · unfold gifts
        rw [List.length_map]
        omega
      refine cat_nv (xs := [0]) (ys := Vbbraf.told s.now es q') (s3 _ _ upd_same) r3 ?_ fun p hp => ?_
      · show 1 + ((es.map fun e => e.gift).length + 5) ≤ 1000
        rw [List.length_map]
        omega
      · exact q.use st h ((k2.trans (Kp.of s1)).trans (Kp.of s3)) ((v2.same s1).same s3) hp
  · rw [if_pos c] at st
    exact n.use st h (Kp.refl H) h.val
theorem chain_within {lo hi x : Int} {i : Nat} {σ : L2.St} {H : Hp} {Q : VK} (hσ : σ[i]? = some (some (.int x))) (q : Q (.bl (Vbbraf.within x lo hi)) H) : tChain (rI0 fun i j => .bl (decide (i ≤ j))) (rI0 fun i j => .bl (decide (i ≤ j))) (tC (.int lo)) (tVar i) (tC (.int hi)) σ H Q := by
  refine ⟨_, hσ, _, _, rfl, rfl, _, rfl, ?_⟩
  unfold Vbbraf.within at q
  by_cases c : lo ≤ x
  · rw [decide_eq_true c, Bool.true_and] at q
    exact if_t (decide_eq_true c) ⟨_, _, rfl, rfl, q⟩
  · rw [decide_eq_false c, Bool.false_and] at q
    exact if_f (decide_eq_false c) q
theorem and_within {lo hi x lo' hi' y : Int} {i j : Nat} {σ : L2.St} {H : Hp} {Q : VK} (hσ : σ[i]? = some (some (.int x))) (hσ' : σ[j]? = some (some (.int y))) (q : Q (.bl (Vbbraf.within x lo hi && Vbbraf.within y lo' hi')) H) :
    tAndV (tChain (rI0 fun i j => .bl (decide (i ≤ j))) (rI0 fun i j => .bl (decide (i ≤ j))) (tC (.int lo)) (tVar i) (tC (.int hi))) (tChain (rI0 fun i j => .bl (decide (i ≤ j))) (rI0 fun i j => .bl (decide (i ≤ j))) (tC (.int lo')) (tVar j) (tC (.int hi'))) σ H Q := by
  refine chain_within hσ ⟨_, rfl, ?_⟩
  cases c : Vbbraf.within x lo hi with
  | true =>
    rw [c, Bool.true_and] at q
    exact if_t rfl (chain_within hσ' q)
  | false =>
    rw [c, Bool.false_and] at q
    exact if_f rfl q
theorem within_le {x lo hi : Int} (h : Vbbraf.within x lo hi = true) : lo ≤ x ∧ x ≤ hi := by
  unfold Vbbraf.within at h
  rw [Bool.and_eq_true_iff] at h
  exact ⟨of_decide_eq_true h.1, of_decide_eq_true h.2⟩
def sp_can (a : Ads) (w : World) : Sp := fun vs H Q E => vs.length = 3 ∧ ∃ e s de sl pl v as d k, vs = [.ref e, .int d, .int k] ∧ EndIs a w H e s de sl pl v as ∧ Yes a w H e (step s (.can d k)) Q ∧ No a w H e s (step s (.can d k)) E
theorem ok_can (D : Dn K mg "can" s_can) (T : Txt K mg a) (F_allow : FnA P w K mg base (L2.CX P w) 3 "allow" (sp_allow a)) (F_truth : FnA P w K mg base CX0 1 "truth" sp_truth) (F_tricks_left : FnA P w K mg base CX0 2 "tricks_left" (sp_tricks_left a))
    (M_value : MtA P w K mg base 57 a.V "value" (sp_value a w 17)) (M_present : MtA P w K mg base 1 a.E "present" (sp_present a w)) : FnA P w K mg base (L2.CX P w) 58 "can" (sp_can a w) := by
  refine D.okX sc_can (fun _ _ _ _ _ _ us hl => match us, hl with | [_, _, _], _ => rfl) (fun _ _ _ _ h => h.1) fun f cdv A outer s H vs Q E hr h => ⟨_, (pss_cons (ps_expr (pcx F_allow hr (by decide) (takes_of rfl rfl rfl rfl) (pa_cons (pe_and (pe_chain op_le op_le pe_int (pv 1) pe_int) (pe_one (pe_chain op_le op_le pe_int (pv 2) pe_int))) (pa_cons (pe_un un_neg pe_int) pa_nil))))
      (pss_cons (ps_set (i := 3) sc_can.nd rfl (Or.inl rfl) (pm0 (names := nE) M_present hr (by decide) (by decide) (pv 0)))
      (pss_cons (ps_set (i := 4) sc_can.nd rfl (Or.inl rfl) (pm (names := nV) M_value hr (by decide) (by decide) (pe_f 2 T.kE (pv 0)) (pa_cons (pv 3) pa_nil)))
      (pss_cons (ps_if (pt_cmpR op_eq (pv 1) pe_int (nomark _)) (pss_one (ps_ret (pe_lst (pa_cons pe_int (pa_cons (pc F_truth hr (by decide) (pa_cons (pe_cmpR op_le (pv 2) (pv 4) (nomark _)) pa_nil)) pa_nil))))) pss_nil)
      (pss_one (ps_ret (pe_lst (pa_cons pe_int (pa_cons (pc F_truth hr (by decide) (pa_cons (pe_cmpR op_le (pe_op op_add (pv 2) (pv 4)) (pc F_tricks_left hr (by decide) (pa_cons (pv 3) pa_nil)) (nomark _)) pa_nil)) pa_nil))))))))), ?_⟩
  obtain ⟨_, e, s, de, sl, pl, v, as, d, k, rfl, h, q, n⟩ := h
  have st : step s (.can d k) = if (Vbbraf.within d 0 1 && Vbbraf.within k 0 4) = false then no s 1 else yes s [if (if d = 0 then decide (k.toNat ≤ value s.now) else decide (k.toNat + value s.now ≤ toCome s.now)) = true then 1 else 0] := rfl
  refine and_within rfl rfl ⟨_, rfl, rfl, _, _, rfl, fun c => ?_, fun c => ?_⟩
  · rw [if_neg (by rw [c]; exact Bool.noConfusion)] at st
    rw [Bool.and_eq_true_iff] at c
    have cd := within_le c.1
    have ck := within_le c.2
    refine ⟨_, rfl, e, de, _, rfl, h.he, rfl, e, s, de, sl, pl, v, as, rfl, h, fun x hx => ?_⟩
    obtain ⟨vx, dd, hv⟩ := h.vx
    refine ⟨_, rfl, e, de, _, _, rfl, h.he, rfl, v, vx, _, rfl, hv, _, rfl, rfl, v, x, s.now, _, rfl, h.at hx, h.few, fun H1 k1 v1 => ?_⟩
    have fin : ∀ (cc : Bool), (if d = 0 then decide (k.toNat ≤ value s.now) else decide (k.toNat + value s.now ≤ toCome s.now)) = cc → ∀ H2 p, Same H1 H2 → H2 p = none → Q (.ref p) (upd H2 p (.lst [V.int 0, .int ((if cc = true then 1 else 0 : Nat) : Int)])) := fun cc hcc H2 p s2 hp => by
      rw [hcc] at st
      exact q.use (l := [if cc = true then 1 else 0]) st h (k1.trans (Kp.of s2)) (v1.same s2) hp
    refine ⟨_, rfl, rfl, _, rfl, ?_⟩
    rw [dint]
    refine ite2 (fun z => ?_) (fun z => ?_)
    · have z' : d = 0 := of_decide_eq_true z
      rw [if_pos z'] at fin
      refine ⟨_, rfl, _, rfl, _, _, rfl, rfl, rfl, _, rfl, sz 2 (by decide), fun p hp => fin _ ?_ H1 p (Same.refl H1) hp⟩
      rw [Bool.eq_iff_iff, decide_eq_true_eq, decide_eq_true_eq]
      omega
    · have z' : d ≠ 0 := fun y => z (decide_eq_true y)
      rw [if_neg z'] at fin
      refine ⟨_, rfl, _, rfl, _, _, rfl, rfl, _, rfl, rfl, x, s.now, rfl, hx.kp k1, h.good.now.n4, fun H2 s2 => ⟨_, _, rfl, rfl, rfl, _, rfl, sz 2 (by decide), fun p hp => fin _ ?_ H2 p s2 hp⟩⟩
      rw [Bool.eq_iff_iff, decide_eq_true_eq, decide_eq_true_eq]
      omega
  · rw [if_pos c] at st
    exact n.use st h (Kp.refl H) h.val
def toldHands (p : Vbbraf.Pos) (n : Nat) : List Nat := p.trump :: p.leader :: (p.hands.take n).flatMap counted
theorem toldHands_len {p : Vbbraf.Pos} (h : ∀ x ∈ p.hands, x.length ≤ 4) (n : Nat) : (toldHands p n).length ≤ 2 + 5 * n := by
  have : ∀ l : List (List Nat), (∀ x ∈ l, x.length ≤ 4) → (l.flatMap counted).length ≤ 5 * l.length := fun l hl => by
    induction l with
    | nil => exact Nat.le_refl _
    | cons a r ih =>
      rw [List.flatMap_cons, List.length_append, List.length_cons]
      have h1 := ih fun x hx => hl x (List.mem_cons_of_mem _ hx)
      have h2 := hl a List.mem_cons_self
      show a.length + 1 + _ ≤ _
      omega
  have h1 := this (p.hands.take n) fun x hx => h x (List.mem_of_mem_take hx)
  rw [List.length_take] at h1
  unfold toldHands
  rw [List.length_cons, List.length_cons]
  omega
theorem hands_small (s : State) (G : Good s) : ∀ x ∈ s.now.hands, x.length ≤ 4 := fun x hx => by
  obtain ⟨i, hi⟩ := List.mem_iff_getElem?.mp hx
  have := G.is.ins.small G.small4 i
  unfold handOf at this
  rw [List.getD_eq_getElem?_getD, hi] at this
  exact this
theorem ok_told (D : Dn K mg "told" s_told) (T : Txt K mg a) (F_told_cards : FnA P w K mg base CX0 1 "told_cards" (sp_told_cards K)) (M_present : MtA P w K mg base 1 a.E "present" (sp_present a w)) : FnA P w K mg base CX0 2 "told" (sp_c0 a w .told) := by
  refine D.ok sc_told (fun _ _ _ _ _ _ us hl => match us, hl with | [_], _ => rfl) (fun _ _ _ _ h => h.1) fun f cdv A outer s H vs Q E hr h => ⟨_, (pss_cons (ps_set (i := 1) sc_told.nd rfl (Or.inl rfl) (pm0 (names := nE) M_present hr (by decide) (by decide) (pv 0)))
      (pss_cons (ps_set (i := 2) sc_told.nd rfl (Or.inl rfl) (pe_lst (pa_cons pe_int (pa_cons (pe_f 1 T.kP (pv 1)) (pa_cons (pe_f 2 T.kP (pv 1)) pa_nil)))))
      (pss_cons (ps_for PassesOwn.never rfl (pi_tup (pe_f 0 T.kP (pv 1))) (pg_name (i := 3) sc_told.nd rfl (Or.inl rfl)) (pss_one (ps_expr (pe_bm PySem.F.plainAttrs_list PySem.F.slot_list_extend PySem.F.type_list_extend mt_extend (pv 2) (pa_cons (pc F_told_cards hr (by decide) (pa_cons (pv 3) pa_nil)) pa_nil)))))
      (pss_one (ps_ret (pe_op op_cat (pe_op op_cat (pv 2) (pc F_told_cards hr (by decide) (pa_cons (pe_f 3 T.kP (pv 1)) pa_nil))) (pc F_told_cards hr (by decide) (pa_cons (pe_f 1 T.kE (pv 0)) pa_nil)))))))), ?_⟩
  obtain ⟨_, e, s, de, sl, pl, v, as, rfl, h, q⟩ := h
  have hsm := hands_small s h.good
  have n4 := h.good.now.n4
  refine ⟨_, rfl, e, de, _, rfl, h.he, rfl, e, s, de, sl, pl, v, as, rfl, h, fun x hx => ?_⟩
  obtain ⟨dx, hs, tk, h1, ⟨as', ha, h2⟩, h3⟩ := id hx
  refine ⟨_, rfl, x, dx, _, _, rfl, h1, rfl, _, rfl, x, dx, _, _, rfl, h1, rfl, sz 3 (by decide), fun l hl => ?_⟩
  refine ⟨_, rfl, x, dx, _, _, rfl, same_new hl _ _ _ h1, rfl, hs, rfl, ⟨_, SqT.of (same_new hl _ _ _ ha)⟩, for_tup (K := K) (xs := as'.map V.ref) (fun i σ H' => Same H H' ∧ H' l = some (.lst (nv (0 :: toldHands s.now i))) ∧ ∃ z, σ = [some (.ref e), some (.ref x), some (.ref l), z])
    ⟨same_new hl _, upd_same, none, rfl⟩ (fun i σ H' _ g => SqT.of (g.1 _ _ ha)) (fun i y σ H' hi g => ?_) (fun σ H' g => ?_)⟩
  · rw [List.getElem?_map] at hi
    cases ei : as'[i]? with
    | none => rw [ei] at hi; cases hi
    | some b =>
      rw [ei] at hi
      have hi' := Option.some.inj hi
      subst hi'
      obtain ⟨r, hr', hb⟩ := h2.at ei
      obtain ⟨g1, g2, z, rfl⟩ := g
      have hr4 := hsm r (List.mem_of_getElem? hr')
      have hi4 : i < 4 := by
        have := (List.getElem?_eq_some_iff.mp hr').1
        omega
      refine ⟨_, rfl, .inl ⟨rfl, _, SqL.of g2⟩, _, rfl, rfl, b, r, rfl, .inr (SqT.of (g1 _ _ hb)), by omega, fun p1 H1 s1 hp1 => ?_⟩
      have L1 := same_new hp1 (.lst (nv (counted r))) _ _ (s1 _ _ g2)
      refine ⟨l, p1, _, _, rfl, rfl, L1, upd_same, ?_, same_upd hl ((g1.trans s1).trans (same_new hp1 _)) _, ?_, _, rfl⟩
      · rw [nv_len, nv_len, List.length_cons]
        have := toldHands_len hsm i
        show _ + (r.length + 1) ≤ _
        exact sz _ (by omega)
      · rw [upd_same, ← nv_app]
        show some (HO.lst (nv (0 :: s.now.trump :: s.now.leader :: (((s.now.hands.take i).flatMap counted) ++ counted r)))) = some (HO.lst (nv (0 :: s.now.trump :: s.now.leader :: ((s.now.hands.take (i + 1)).flatMap counted))))
        rw [take_more hr', List.flatMap_append, List.flatMap_singleton]
  · obtain ⟨g1, g2, z, rfl⟩ := g
    have hl4 : (as'.map V.ref).length = s.now.hands.length := by rw [List.length_map]; exact h2.len
    rw [hl4] at g2
    have ht := h.good.now.tk
    have hpl := h.good.held
    have hlen := toldHands_len hsm s.now.hands.length
    refine ⟨_, rfl, _, rfl, x, dx, _, _, rfl, g1 _ _ h1, rfl, rfl, tk, s.now.trick, rfl, .inr (SqT.of (g1 _ _ h3)), by omega, fun p1 H1 s1 hp1 => ?_⟩
    have s01 := (g1.trans s1).trans (same_new hp1 (.lst (nv (counted s.now.trick))))
    refine cat_nv (same_new hp1 _ _ _ (s1 _ _ g2)) upd_same ?_ fun p2 hp2 => ?_
    · show _ + (s.now.trick.length + 1) ≤ 1000
      rw [List.length_cons]
      omega
    have s02 := s01.trans (same_new hp2 (.lst (nv (0 :: toldHands s.now s.now.hands.length ++ counted s.now.trick))))
    refine ⟨_, rfl, e, de, _, _, rfl, s02 _ _ h.he, rfl, rfl, pl, s.played, rfl, .inl (SqL.of (s02 _ _ h.hp)), by omega, fun p3 H3 s3 hp3 => ?_⟩
    have s03 := (s02.trans s3).trans (same_new hp3 (.lst (nv (counted s.played))))
    refine cat_nv (same_new hp3 _ _ _ (s3 _ _ upd_same)) upd_same ?_ fun p hp => ?_
    · rw [List.length_append, List.length_cons]
      show _ + (s.now.trick.length + 1) + (s.played.length + 1) ≤ 1000
      omega
    · have el : 0 :: toldHands s.now s.now.hands.length ++ counted s.now.trick ++ counted s.played = 0 :: (s.now.trump :: s.now.leader :: ((s.now.hands.flatMap counted) ++ (counted s.now.trick ++ counted s.played))) := by
        unfold toldHands
        rw [List.take_length, List.append_assoc]
        rfl
      rw [el]
      exact q.use rfl h (Kp.of s03) (h.val.same s03) hp
end
end Lt
/-! # LtX4: table, alike, squeezed -/
namespace Lt
open PySem PySem.Spec PyProof.Rows L2
open Vbbraf (State handOf turnOf held toCome legal value valueBy behind gained playedBy dealt yes no step counted line isCard nats suitOf ownerOf)
theorem flat_nv (l : List Nat) : (nv l).all flatV = true := by
  unfold nv
  rw [List.all_map, List.all_eq_true]
  intro n _
  rfl
theorem inV_nv (c : Nat) (l : List Nat) : inV (V.int (c : Int)) (nv l) = l.contains c := by
  unfold inV nv
  rw [List.any_map, Bool.eq_iff_iff, List.any_eq_true, List.contains_iff_mem]
  constructor
  · rintro ⟨n, hn, e⟩
    have e' : ((n : Int) == (c : Int)) = true := e
    have : n = c := by have := eq_of_beq e'; omega
    rw [← this]; exact hn
  · intro hm
    exact ⟨c, hm, by show ((c : Int) == (c : Int)) = true; exact beq_self_eq_true _⟩
theorem use_in {K : PySem.W.Frag} {H : Hp} {c : Nat} {b : Addr} {l : List Nat} {Q : VK} (h : SqL K H b (nv l) ∨ SqT K H b (nv l)) (q : Q (.bl (l.contains c)) H) : rIn K false (.int (c : Int)) (.ref b) H Q :=
  ⟨b, nv l, rfl, h, rfl, flat_nv l, by rw [if_neg Bool.false_ne_true, inV_nv]; exact q⟩
theorem fine_table {p : Vbbraf.Pos} (F : Fine p) (hk : p.trick = []) {t l : Nat} (ht : t ≤ 4) (hl : l ≤ 3) : Fine ⟨p.hands, t, l, []⟩ := by
  obtain ⟨n, hn⟩ := F.lens
  have nd := F.nd
  have lt := F.lt
  unfold Vbbraf.cardsOf at nd lt
  rw [hk] at nd lt
  refine ⟨F.n4, ht, hl, by simp, ⟨n, fun s hs => ?_⟩, nd, lt⟩
  have := hn s hs
  have z : hasPlayed p s = false := by unfold hasPlayed; rw [hk]; simp
  rw [z] at this
  have z2 : hasPlayed ⟨p.hands, t, l, []⟩ s = false := by unfold hasPlayed; simp
  rw [z2]
  exact this
def tabT (hs : List (List Nat)) (n : Nat) : List Nat := (List.range n).flatMap fun t => (List.range 4).map fun l => value ⟨hs, t, l, []⟩
def tabL (hs : List (List Nat)) (t n : Nat) : List Nat := (List.range n).map fun l => value ⟨hs, t, l, []⟩
theorem tabT_more (hs : List (List Nat)) (n : Nat) : tabT hs (n + 1) = tabT hs n ++ tabL hs n 4 := by
  unfold tabT tabL
  rw [show List.range (n + 1) = List.range n ++ [n] from List.range_succ, List.flatMap_append, List.flatMap_singleton]
theorem tabL_more (hs : List (List Nat)) (t n : Nat) : tabL hs t (n + 1) = tabL hs t n ++ [value ⟨hs, t, n, []⟩] := by
  unfold tabL
  rw [show List.range (n + 1) = List.range n ++ [n] from List.range_succ, List.map_append]
  rfl
theorem tabL_len (hs : List (List Nat)) (t n : Nat) : (tabL hs t n).length = n := by
  unfold tabL
  rw [List.length_map, List.length_range]
theorem tabT_len (hs : List (List Nat)) : ∀ n, (tabT hs n).length = 4 * n
  | 0 => rfl
  | n + 1 => by
    rw [tabT_more, List.length_append, tabT_len hs n, tabL_len]
    omega
section
variable {P : Program} {w : World} {K : PySem.W.Frag} {mg : Str → Option Value} {base : Heap} {a : Ads}
/-- a call without arguments that may be refused -/
def sp_c1 (a : Ads) (w : World) (c : Vbbraf.Call) : Sp := fun vs H Q E => vs.length = 1 ∧ ∃ e s de sl pl v as, vs = [.ref e] ∧ EndIs a w H e s de sl pl v as ∧ Yes a w H e (step s c) Q ∧ No a w H e s (step s c) E
theorem ok_table (D : Dn K mg "table" s_table) (T : Txt K mg a) (F_allow : FnA P w K mg base (L2.CX P w) 3 "allow" (sp_allow a)) (F_cards_left : FnA P w K mg base CX0 1 "cards_left" (sp_cards_left a)) (K_P : MkA P w K mg base 1 "Position" a.P (spRec a.P nP))
    (M_value : MtA P w K mg base 57 a.V "value" (sp_value a w 17)) (M_present : MtA P w K mg base 1 a.E "present" (sp_present a w)) : FnA P w K mg base (L2.CX P w) 58 "table" (sp_c1 a w .table) := by
  refine D.okX sc_table (fun _ _ _ _ _ _ us hl => match us, hl with | [_], _ => rfl) (fun _ _ _ _ h => h.1) fun f cdv A outer s H vs Q E hr h => ⟨_, (pss_cons (ps_set (i := 1) sc_table.nd rfl (Or.inl rfl) (pm0 (names := nE) M_present hr (by decide) (by decide) (pv 0)))
      (pss_cons (ps_expr (pcx F_allow hr (by decide) (takes_of rfl rfl rfl rfl) (pa_cons (pe_and (pe_cmpR op_eq (pe_callB (cl_len (K := K)) (by rfl) T.m_len PySem.boot_len (pa_cons (pe_f 3 T.kP (pv 1)) pa_nil)) pe_int (nomark _)) (pe_one (pe_cmpR op_le (pc F_cards_left hr (by decide) (pa_cons (pv 1) pa_nil)) (pgc T.g_MOST_FOR_TABLE) (nomark _)))) (pa_cons (pe_un un_neg pe_int) pa_nil))))
      (pss_cons (ps_set (i := 2) sc_table.nd rfl (Or.inl rfl) (pe_lst pa_nil))
      (pss_cons (ps_for (passes_of rfl) rfl (pi_range1 (by rfl) T.m_range (pa_cons (pe_op op_add (pgc T.g_NO_TRUMP) pe_int) pa_nil)) (pg_name (i := 3) sc_table.nd rfl (Or.inl rfl)) (pss_one (ps_for (passes_of rfl) rfl (pi_tup (pgt T.g_SEATS)) (pg_name (i := 4) sc_table.nd rfl (Or.inl rfl)) (pss_one (ps_expr (pe_bm PySem.F.plainAttrs_list PySem.F.slot_list_append PySem.F.type_list_append mt_append (pv 2) (pa_cons (pm (names := nV) M_value hr (by decide) (by decide) (pe_f 2 T.kE (pv 0)) (pa_cons (pmk K_P hr (by decide) (pa_cons (pe_f 0 T.kP (pv 1)) (pa_cons (pv 3) (pa_cons (pv 4) (pa_cons (pe_tup pa_nil) pa_nil))))) pa_nil)) pa_nil)))))))
      (pss_one (ps_ret (pe_op op_cat (pe_lst (pa_cons pe_int pa_nil)) (pv 2)))))))), ?_⟩
  obtain ⟨_, e, s, de, sl, pl, v, as, rfl, h, q, n⟩ := h
  have st : step s .table = if s.now.trick.isEmpty = false ∨ 12 < held s.now then no s 7 else yes s (tabT s.now.hands 5) := rfl
  refine ⟨_, rfl, e, de, _, rfl, h.he, rfl, e, s, de, sl, pl, v, as, rfl, h, fun x hx => ?_⟩
  obtain ⟨dx, hs, tk, h1, h2, h3⟩ := id hx
  have n4 := h.good.now.n4
  refine ⟨_, rfl, x, dx, _, _, rfl, h1, rfl, tk, _, rfl, .inr (SqT.of h3), rfl, _, rfl, ?_⟩
  rw [dint, nv_len]
  by_cases hk : s.now.trick = []
  · refine if_t (by rw [hk]; rfl) ⟨_, rfl, rfl, x, s.now, rfl, hx, n4, fun H1 s1 => ⟨_, _, rfl, rfl, _, rfl, rfl, _, _, rfl, fun c => ?_, fun c => ?_⟩⟩
    · have c12 : held s.now ≤ 12 := by have := of_decide_eq_true c; omega
      have st' := st.trans (if_neg (by rw [hk]; intro z; rcases z with z | z; exact Bool.noConfusion z; omega))
      refine ⟨sz 0 (by decide), fun l hl => ?_⟩
      have l0 := s1.free hl
      have s2 := s1.trans (same_new hl (.lst []))
      refine ⟨_, _, rfl, rfl, _, rfl, by decide, by decide, for_range (lo := 0) (n := 5) (fun i σ H' => Kp H H' ∧ ValAt a.V w s.first.hands H' v ∧ H' l = some (.lst (nv (tabT s.now.hands i))) ∧ ∃ z1 z2, σ = [some (.ref e), some (.ref x), some (.ref l), z1, z2])
        ⟨Kp.of s2, h.val.same s2, upd_same, none, none, rfl⟩ (fun i σ H2 hi g => ?_) (fun σ H2 g => ?_)⟩
      · obtain ⟨g1, g2, g3, z1, z2, rfl⟩ := g
        refine fun b hb => ⟨b, rfl, ⟨_, hb _⟩, for_tup (K := K) (xs := [.int 0, .int 1, .int 2, .int 3]) (fun j σ H' => Kp H H' ∧ ValAt a.V w s.first.hands H' v ∧ H' l = some (.lst (nv (tabT s.now.hands i ++ tabL s.now.hands i j))) ∧ ∃ z2, σ = [some (.ref e), some (.ref x), some (.ref l), some (.int (0 + (i : Int))), z2])
          ⟨g1, g2, ?_, z2, rfl⟩ (fun j σ H' _ g => hb H') (fun j y σ H' hj g => ?_) (fun σ H' g => ?_)⟩
        · show _ = some (HO.lst (nv (tabT s.now.hands i ++ [])))
          rw [List.append_nil]
          exact g3
        · obtain ⟨hj4, rfl⟩ := seats_at hj
          obtain ⟨g1, g2, g3, z2, rfl⟩ := g
          have h' := h.kp g1 g2
          obtain ⟨vx, d, hv⟩ := h'.vx
          refine ⟨_, rfl, .inl ⟨rfl, _, SqL.of g3⟩, _, rfl, e, de, _, _, rfl, h'.he, rfl, v, vx, _, rfl, hv, _, rfl, x, dx, _, _, rfl, g1 _ _ h1 trivial, rfl, _, rfl, _, rfl, sz 0 (by decide), fun p6 h6 => ?_⟩
          have s6 := same_new h6 (.tup [])
          refine use_recR rfl fun ps H7 hps s7 ⟨d7, e7⟩ => ?_
          have s67 := s6.trans s7
          have F := fine_table h.good.now hk (t := i) (l := j) (by omega) (by omega)
          have pos : PosAt a.P H7 ps ⟨s.now.hands, i, j, []⟩ := ⟨d7, hs, p6, by rw [e7, Int.zero_add], h2.imp (g1.trans (Kp.of s67)).tup, s7 _ _ upd_same⟩
          refine ⟨rfl, v, ps, ⟨s.now.hands, i, j, []⟩, _, rfl, ⟨pos, g2.same s67, F, ⟨h.good.is.ins.subs, F.tr, F.ld⟩, h.good.small4⟩, h.few, fun H8 k8 v8 => ?_⟩
          have L8 := k8 _ _ (s67 _ _ g3) trivial
          refine ⟨l, _, _, rfl, rfl, L8, ?_, kp_new l0 ((g1.trans (Kp.of s67)).trans k8), v8.lst L8, ?_, _, rfl⟩
          · rw [nv_len, List.length_append, tabT_len, tabL_len]
            exact szl _ (by omega)
          · rw [upd_same, tabL_more, ← List.append_assoc, nv_app (tabT s.now.hands i ++ tabL s.now.hands i j)]
            rfl
        · obtain ⟨g1, g2, g3, z2, rfl⟩ := g
          refine ⟨g1, g2, ?_, _, _, rfl⟩
          rw [tabT_more]
          exact g3
      · obtain ⟨g1, g2, g3, z1, z2, rfl⟩ := g
        refine ⟨sz 1 (by decide), fun p1 hp1 => ⟨_, rfl, cat_nv (xs := [0]) upd_same (same_new hp1 _ _ _ g3) ?_ fun p hp => ?_⟩⟩
        · rw [tabT_len]
          decide
        · exact q.use st' h (g1.trans (Kp.of (same_new hp1 _))) (g2.same (same_new hp1 _)) hp
    · refine n.use (st.trans (if_pos (.inr ?_))) h (Kp.of s1) (h.val.same s1)
      have := of_decide_eq_false c
      omega
  · have ne : ¬ s.now.trick.length = 0 := fun z => hk (List.eq_nil_of_length_eq_zero z)
    refine if_f (decide_eq_false (by omega)) ⟨_, rfl, rfl, _, _, rfl, fun c => Bool.noConfusion c, fun _ => ?_⟩
    refine n.use (st.trans (if_pos (.inl ?_))) h (Kp.refl H) h.val
    cases z : s.now.trick.isEmpty with
    | false => rfl
    | true => exact absurd (List.isEmpty_iff.mp z) hk
theorem between_else {p : Vbbraf.Pos} {t x y : Nat} : (elsewhere p t 4).any (fun c => decide (min x y < c) && decide (c < max x y)) = Vbbraf.between p t x y := by
  unfold elsewhere Vbbraf.between
  rw [List.any_append, List.any_flatMap]
  have e : (fun a => (if a = t then [] else handOf p a).any fun c => decide (min x y < c) && decide (c < max x y)) = fun a => a != t && (handOf p a).any fun c => decide (min x y < c) && decide (c < max x y) := by
    funext a
    by_cases h : a = t
    · rw [if_pos h, h]
      simp
    · rw [if_neg h]
      have : (a != t) = true := by simpa using h
      rw [this, Bool.true_and]
  rw [e]
theorem range_filter (f : Nat → Bool) (i : Nat) : (List.range (i + 1)).filter f = (List.range i).filter f ++ (if f i = true then [i] else []) := by
  rw [List.range_succ, List.filter_append]
  congr 1
  by_cases c : f i = true <;> simp [c]
theorem owner_seats (p : Vbbraf.Pos) (c : Nat) : ownerOf p c = ((List.range 4).filter fun t => (handOf p t).contains c).head? := by
  rw [List.head?_filter]
  rfl
def sp_alike (a : Ads) (w : World) : Sp := fun vs H Q E => vs.length = 2 ∧ ∃ e s de sl pl v as c, vs = [.ref e, .int c] ∧ EndIs a w H e s de sl pl v as ∧ Yes a w H e (step s (.alike c)) Q ∧ No a w H e s (step s (.alike c)) E
theorem ok_alike (D : Dn K mg "alike" s_alike) (T : Txt K mg a) (F_allow : FnA P w K mg base (L2.CX P w) 3 "allow" (sp_allow a)) (F_allow_card : FnA P w K mg base (L2.CX P w) 4 "allow_card" (sp_allow_card a)) (F_cards_elsewhere : FnA P w K mg base CX0 1 "cards_elsewhere" (sp_elsewhere a))
    (F_suit_of : FnA P w K mg base CX0 1 "suit_of" sp_suit_of) (F_is_one_between : FnA P w K mg base CX0 1 "is_one_between" (sp_between K)) (F_told_cards : FnA P w K mg base CX0 1 "told_cards" (sp_told_cards K)) (M_present : MtA P w K mg base 1 a.E "present" (sp_present a w)) :
    FnA P w K mg base (L2.CX P w) 5 "alike" (sp_alike a w) := by
  refine D.okX sc_alike (fun _ _ _ _ _ _ us hl => match us, hl with | [_, _], _ => rfl) (fun _ _ _ _ h => h.1) fun f cdv A outer s H vs Q E hr h => ⟨_, (pss_cons (ps_expr (pcx F_allow_card hr (by decide) (takes_of rfl rfl rfl rfl) (pa_cons (pv 1) pa_nil)))
      (pss_cons (ps_set (i := 2) sc_alike.nd rfl (Or.inr rfl) (pm0 (names := nE) M_present hr (by decide) (by decide) (pv 0)))
      (pss_cons (ps_setLc (i := 3) (own := [("seat", 7)]) (g := gName 7) rfl sc_alike.nd rfl rfl (sw_true rfl rfl rfl (by decide +kernel)) (pi_tup (pgt T.g_SEATS)) (blkOk_by (own := [("seat", 7)]) (N := N_alike) (sc := defScope s_alike) (by decide +kernel)) (fun _ _ _ _ _ => pg_name (i := 7) sc_alike.nd rfl (Or.inl rfl)) (fun _ _ _ _ _ => (pts_one (pt_cmpR (op_inK (K := K)) (pv 1) (pe_ix (ix_tupK (K := K)) (pe_f 0 T.kP (pv 2)) (pv 7) (fun _ _ => rfl)) (by with_unfolding_all rfl)))) (fun _ _ _ _ _ => (pv 7)))
      (pss_cons (ps_expr (pcx F_allow hr (by decide) (takes_of rfl rfl rfl rfl) (pa_cons (pe_cmpR op_gt (pe_callB (cl_len (K := K)) (by rfl) T.m_len PySem.boot_len (pa_cons (pv 3) pa_nil)) pe_int (nomark _)) (pa_cons (pe_un un_neg pe_int) pa_nil))))
      (pss_cons (ps_set (i := 4) sc_alike.nd rfl (Or.inl rfl) (pc F_cards_elsewhere hr (by decide) (pa_cons (pv 2) (pa_cons (pe_ix (ix_listK (K := K)) (pv 3) pe_int (fun _ _ => rfl)) pa_nil))))
      (pss_cons (ps_set (i := 5) sc_alike.nd rfl (Or.inl rfl) (pe_lst pa_nil))
      (pss_cons (ps_for (passes_of rfl) rfl (pi_tup (pe_ix (ix_tupK (K := K)) (pe_f 0 T.kP (pv 2)) (pe_ix (ix_listK (K := K)) (pv 3) pe_int (fun _ _ => rfl)) (fun _ _ => rfl))) (pg_name (i := 6) sc_alike.nd rfl (Or.inl rfl)) (pss_one (ps_if (pw_and (pt_cmpR op_eq (pc F_suit_of hr (by decide) (pa_cons (pv 6) pa_nil)) (pc F_suit_of hr (by decide) (pa_cons (pv 1) pa_nil)) (nomark _)) (pw_and1 (pt_not (pt_val (pc F_is_one_between hr (by decide) (pa_cons (pv 4) (pa_cons (pv 1) (pa_cons (pv 6) pa_nil)))))))).pt (pss_one (ps_expr (pe_bm PySem.F.plainAttrs_list PySem.F.slot_list_append PySem.F.type_list_append mt_append (pv 5) (pa_cons (pv 6) pa_nil)))) pss_nil)))
      (pss_one (ps_ret (pe_op op_cat (pe_lst (pa_cons pe_int pa_nil)) (pc F_told_cards hr (by decide) (pa_cons (pv 5) pa_nil)))))))))))), ?_⟩
  obtain ⟨_, e, s, de, sl, pl, v, as, z, rfl, h, q, n⟩ := h
  have st : step s (.alike z) = if isCard z = false then no s 1 else match ownerOf s.now z.toNat with
      | none => no s 4
      | some t => yes s (Vbbraf.counted ((handOf s.now t).filter (Vbbraf.alike s.now t z.toNat))) := rfl
  refine ⟨_, rfl, rfl, z, rfl, fun cc => ?_, fun cc => n.use (st.trans (if_pos cc)) h (Kp.refl H) h.val⟩
  rw [if_neg (by rw [cc]; exact Bool.noConfusion)] at st
  obtain ⟨c, rfl⟩ : ∃ c : Nat, z = (c : Int) := by
    rw [isCard_iff, Bool.and_eq_true_iff] at cc
    exact ⟨z.toNat, (Int.toNat_of_nonneg (of_decide_eq_true cc.1)).symm⟩
  rw [Int.toNat_natCast] at st
  refine ⟨_, rfl, e, de, _, rfl, h.he, rfl, e, s, de, sl, pl, v, as, rfl, h, fun x hx => ?_⟩
  obtain ⟨dx, hs, tk, h1, ⟨as', ha, h2⟩, h3⟩ := id hx
  have n4 := h.good.now.n4
  refine fun b hb => ⟨b, rfl, ⟨_, hb _⟩, fun r hr0 => ?_⟩
  refine lc_tup (K := K) (xs := [.int 0, .int 1, .int 2, .int 3]) (fun i H' => Same H H' ∧ H' r = some (.lst (nv ((List.range i).filter fun t => (handOf s.now t).contains c)))) ⟨same_new hr0 _, upd_same⟩ (fun i H' _ g => hb H') (fun i y H' hi g => ?_) (fun H' g => ?_)
  · obtain ⟨hi4, rfl⟩ := seats_at hi
    obtain ⟨y, e1, _, e2⟩ := hand_tup ha h2 (s := i) (by rw [n4]; exact hi4)
    refine ⟨rfl, _, rfl, _, rfl, x, dx, _, _, rfl, g.1 _ _ h1, rfl, _, rfl, hs, _, _, _, rfl, rfl, SqT.of (g.1 _ _ ha), e1, use_in (.inr (SqT.of (g.1 _ _ e2))) ⟨_, rfl, ?_⟩⟩
    have eh : (s.now.hands.getD i []).contains c = (handOf s.now i).contains c := rfl
    rw [eh]
    by_cases m : (handOf s.now i).contains c = true
    · refine if_t m ⟨_, rfl, _, g.2, ?_, same_upd hr0 g.1 _, ?_⟩
      · rw [nv_len]
        have := List.length_filter_le (fun t => (handOf s.now t).contains c) (List.range i)
        rw [List.length_range] at this
        exact szl _ (by omega)
      · rw [upd_same, range_filter, if_pos m, nv_app]
        rfl
    · refine if_f (by rw [Bool.eq_false_iff]; exact m) ⟨g.1, ?_⟩
      rw [range_filter, if_neg m, List.append_nil]
      exact g.2
  · obtain ⟨g1, g2⟩ := g
    have g2' : H' r = some (.lst (nv ((List.range 4).filter fun t => (handOf s.now t).contains c))) := g2
    have hx' := hx.same g1
    refine ⟨_, rfl, r, _, rfl, .inl (SqL.of g2'), _, _, rfl, rfl, _, rfl, rfl, _, _, rfl, fun cl => ?_, fun cl => ?_⟩
    · have cl' := of_decide_eq_true cl
      rw [nv_len] at cl'
      obtain ⟨t, ts, et⟩ : ∃ t ts, ((List.range 4).filter fun t => (handOf s.now t).contains c) = t :: ts := by
        cases z : (List.range 4).filter fun t => (handOf s.now t).contains c with
        | nil => rw [z] at cl'; exact absurd cl' (by decide)
        | cons t ts => exact ⟨t, ts, rfl⟩
      have ht4 : t < 4 := by
        have : t ∈ (List.range 4).filter fun t => (handOf s.now t).contains c := by rw [et]; exact List.mem_cons_self
        exact List.mem_range.mp (List.mem_filter.mp this).1
      have own : ownerOf s.now c = some t := by rw [owner_seats, et]; rfl
      rw [own] at st
      have at0 : atI (nv ((List.range 4).filter fun t => (handOf s.now t).contains c)) 0 = some (.int (t : Int)) := by
        exact atI_nat (j := 0) (by rw [et]; rfl)
      obtain ⟨yh, e1, _, e2⟩ := hand_tup ha h2 (s := t) (by rw [n4]; exact ht4)
      have hsm : ∀ u, (handOf s.now u).length ≤ 4 := fun u => h.good.is.ins.small h.good.small4 u
      refine ⟨_, rfl, _, rfl, r, _, _, _, rfl, rfl, SqL.of g2', at0, rfl, x, s.now, t, rfl, hx', n4, h.good.now.tk, fun u => Nat.le_trans (hsm u) (by decide), fun be H3 s3 b3 => ?_⟩
      refine ⟨sz 0 (by decide), fun l hl => ?_⟩
      have s03 := g1.trans s3
      have s04 := s03.trans (same_new hl (.lst []))
      have s34 := s3.trans (same_new hl (.lst []))
      have l3 := hl
      refine ⟨_, rfl, x, dx, _, _, rfl, s04 _ _ h1, rfl, _, rfl, r, _, _, _, rfl, rfl, SqL.of (s34 _ _ g2'), at0, hs, _, _, _, rfl, rfl, SqT.of (s04 _ _ ha), e1, yh, rfl, ⟨_, SqT.of (s04 _ _ e2)⟩, ?_⟩
      refine for_tup (K := K) (xs := nv (handOf s.now t)) (fun i σ H' => Same H3 H' ∧ H' l = some (.lst (nv (((handOf s.now t).take i).filter (Vbbraf.alike s.now t c)))) ∧ ∃ z, σ = [some (.ref e), some (.int (c : Int)), some (.ref x), some (.ref r), some (.ref be), some (.ref l), z, none])
        ⟨same_new hl _, upd_same, none, rfl⟩ (fun i σ H' _ g => SqT.of (g.1 _ _ (s03 _ _ e2))) (fun i y σ H' hi g => ?_) (fun σ H' g => ?_)
      · obtain ⟨o, ho, rfl⟩ := of_nv hi
        obtain ⟨g1, g2, z, rfl⟩ := g
        have step1 := filter_take (p := Vbbraf.alike s.now t c) ho
        have hlt : i < (handOf s.now t).length := (List.getElem?_eq_some_iff.mp ho).1
        have no' : Vbbraf.alike s.now t c o = false → H' l = some (.lst (nv (((handOf s.now t).take (i + 1)).filter (Vbbraf.alike s.now t c)))) := fun z => by
          rw [step1, if_neg (by rw [z]; exact Bool.false_ne_true), List.append_nil]
          exact g2
        refine ⟨_, rfl, rfl, o, rfl, _, rfl, rfl, c, rfl, rfl, _, rfl, ?_⟩
        rw [dint]
        by_cases es : suitOf o = suitOf c
        · refine if_t (by rw [es]; exact decide_eq_true rfl) ⟨_, rfl, _, rfl, _, rfl, rfl, be, elsewhere s.now t 4, c, o, rfl, SqL.of (g1 _ _ b3), ?_⟩
          rw [between_else]
          have ea : Vbbraf.alike s.now t c o = !Vbbraf.between s.now t c o := by
            show (suitOf c == suitOf o && !Vbbraf.between s.now t c o) = _
            rw [es]
            simp
          cases eb : Vbbraf.between s.now t c o with
          | true =>
            rw [eb] at ea
            exact ⟨_, rfl, g1, no' ea, _, rfl⟩
          | false =>
            rw [eb] at ea
            have ea' : Vbbraf.alike s.now t c o = true := ea
            refine ⟨_, rfl, _, rfl, .inl ⟨rfl, _, SqL.of g2⟩, _, rfl, l, _, _, rfl, rfl, g2, ?_, same_upd hl g1 _, ?_, _, rfl⟩
            · rw [nv_len]
              have := List.length_filter_le (Vbbraf.alike s.now t c) ((handOf s.now t).take i)
              rw [List.length_take] at this
              have := hsm t
              exact szl _ (by omega)
            · rw [upd_same, step1, if_pos ea', nv_app]
              rfl
        · refine if_f (decide_eq_false (by omega)) ?_
          refine ⟨g1, no' ?_, _, rfl⟩
          show (suitOf c == suitOf o && !Vbbraf.between s.now t c o) = false
          have : (suitOf c == suitOf o) = false := by
            rw [beq_eq_false_iff_ne]
            exact fun z => es z.symm
          rw [this, Bool.false_and]
      · obtain ⟨g1', g2', z, rfl⟩ := g
        rw [nv_len, List.take_length] at g2'
        have hle := List.length_filter_le (Vbbraf.alike s.now t c) (handOf s.now t)
        have := hsm t
        refine ⟨sz 1 (by decide), fun p1 hp1 => ?_⟩
        have s1 := same_new hp1 (.lst (nv [0]))
        refine ⟨_, rfl, rfl, l, _, rfl, .inl (SqL.of (s1 _ _ g2')), by omega, fun p2 H2 s2 hp2 => ?_⟩
        refine cat_nv (xs := [0]) (same_new hp2 _ _ _ (s2 _ _ upd_same)) upd_same ?_ fun p hp => ?_
        · show 1 + (((handOf s.now t).filter (Vbbraf.alike s.now t c)).length + 1) ≤ 1000
          omega
        · have sall := (((s03.trans g1').trans s1).trans s2).trans (same_new hp2 (.lst (nv (Vbbraf.counted ((handOf s.now t).filter (Vbbraf.alike s.now t c))))))
          exact q.use st h (Kp.of sall) (h.val.same sall) hp
    · have cl' := of_decide_eq_false cl
      rw [nv_len] at cl'
      have own : ownerOf s.now c = none := by
        rw [owner_seats]
        cases z : (List.range 4).filter fun t => (handOf s.now t).contains c with
        | nil => rfl
        | cons t ts =>
          rw [z, List.length_cons] at cl'
          exact absurd (by omega) cl'
      rw [own] at st
      exact n.use st h (Kp.of g1) (h.val.same g1)
theorem flat_le {α β : Type} {f : α → List β} {k : Nat} : ∀ {l : List α}, (∀ x ∈ l, (f x).length ≤ k) → (l.flatMap f).length ≤ k * l.length
  | [], _ => Nat.zero_le _
  | x :: l, h => by
    rw [List.flatMap_cons, List.length_append, List.length_cons, Nat.mul_succ]
    have h1 := h x List.mem_cons_self
    have h2 := flat_le (l := l) (f := f) (k := k) fun y hy => h y (List.mem_cons_of_mem _ hy)
    omega
theorem higher_le {p : Vbbraf.Pos} (F : Fine p) (c : Nat) : (higher c (Vbbraf.cardsOf p)).length ≤ 12 := by
  have nd : (higher c (Vbbraf.cardsOf p)).Nodup := F.nd.sublist List.filter_sublist
  have := nodup_le (m := (List.range 12).map fun i => 13 * suitOf c + 1 + i) nd fun x hx => by
    obtain ⟨_, hx⟩ := List.mem_filter.mp hx
    rw [Bool.and_eq_true_iff] at hx
    have h1 : suitOf x = suitOf c := eq_of_beq hx.1
    have h2 := of_decide_eq_true hx.2
    unfold suitOf at h1
    refine List.mem_map.mpr ⟨x - (13 * (c / 13) + 1), List.mem_range.mpr ?_, ?_⟩
    · omega
    · show 13 * (c / 13) + 1 + (x - (13 * (c / 13) + 1)) = x
      omega
  rw [List.length_map, List.length_range] at this
  exact this
theorem sqz_cast {p : Vbbraf.Pos} (F : Fine p) (c : Nat) : 13 * (suitOf c : Int) + 13 - 1 - ((higher c (Vbbraf.cardsOf p)).length : Int) = ((Vbbraf.squeezedCard p c : Nat) : Int) := by
  have h := higher_le F c
  show _ = ((13 * suitOf c + (12 - (higher c (Vbbraf.cardsOf p)).length) : Nat) : Int)
  omega
theorem Tups.snoc {H : Hp} {tk : Addr} {tr : List Nat} (ht : H tk = some (.tup (nv tr))) : ∀ {as : List Addr} {hs : List (List Nat)}, Tups H as hs → Tups H (as ++ [tk]) (hs ++ [tr])
  | [], [], _ => ⟨ht, trivial⟩
  | _ :: _, _ :: _, h => ⟨h.1, Tups.snoc ht h.2⟩
  | [], _ :: _, h => h.elim
  | _ :: _, [], h => h.elim
theorem same_del {H H' : Hp} {l : Addr} (h : H l = none) (s : Same H H') : Same H (del H' l) := fun b o e => by
  rw [del_ne (ne_of_none e h)]
  exact s b o e
theorem del_self {H : Hp} {l : Addr} : (del H l) l = none := if_pos rfl
theorem upd_del {H : Hp} {l : Addr} {o : HO} (h : H l = some o) : upd (del H l) l o = H := funext fun b => by
  by_cases e : b = l
  · rw [e, upd_same, h]
  · rw [upd_ne e, del_ne e]
theorem ok_squeezed (D : Dn K mg "squeezed" s_squeezed) (T : Txt K mg a) (F_squeezed_card : FnA P w K mg base CX0 2 "squeezed_card" sp_sqz) (F_told_cards : FnA P w K mg base CX0 1 "told_cards" (sp_told_cards K)) (M_present : MtA P w K mg base 1 a.E "present" (sp_present a w)) :
    FnA P w K mg base CX0 3 "squeezed" (sp_c0 a w .squeezed) := by
  refine D.ok sc_squeezed (fun _ _ _ _ _ _ us hl => match us, hl with | [_], _ => rfl) (fun _ _ _ _ h => h.1) fun f cdv A outer s H vs Q E hr h => ⟨_, (pss_cons (ps_set (i := 1) sc_squeezed.nd rfl (Or.inl rfl) (pm0 (names := nE) M_present hr (by decide) (by decide) (pv 0)))
      (pss_cons (ps_set (i := 2) sc_squeezed.nd rfl (Or.inl rfl) (pe_op op_cat (pe_callTy (cl_list (K := K)) (by rfl) T.m_list (by decide +kernel) (pa_cons (pe_f 0 T.kP (pv 1)) pa_nil)) (pe_lst (pa_cons (pe_f 3 T.kP (pv 1)) pa_nil))))
      (pss_cons (ps_set (i := 3) sc_squeezed.nd rfl (Or.inr rfl) (pe_lst pa_nil))
      (pss_cons (ps_for PassesOwn.never rfl (pi_list (pv 2)) (pg_name (i := 4) sc_squeezed.nd rfl (Or.inl rfl)) (pss_one (ps_expr (pe_bm PySem.F.plainAttrs_list PySem.F.slot_list_extend PySem.F.type_list_extend mt_extT (pv 3) (pa_cons (pv 4) pa_nil)))))
      (pss_cons (ps_set (i := 5) sc_squeezed.nd rfl (Or.inl rfl) (pe_lst (pa_cons pe_int pa_nil)))
      (pss_cons (ps_for PassesOwn.never rfl (pi_list (pv 2)) (pg_name (i := 4) sc_squeezed.nd rfl (Or.inl rfl)) (pss_one (ps_expr (pe_bm PySem.F.plainAttrs_list PySem.F.slot_list_extend PySem.F.type_list_extend mt_extend (pv 5) (pa_cons (pc F_told_cards hr (by decide) (pa_cons (pe_lc (own := [("card", 6)]) (g := gName 6) rfl sc_squeezed.nd (pi_tup (pv 4)) (blkOk_by (own := [("card", 6)]) (N := N_squeezed) (sc := defScope s_squeezed) (by decide +kernel)) (fun _ _ _ _ _ => pg_name (i := 6) sc_squeezed.nd rfl (Or.inl rfl)) (fun _ _ _ _ _ => pts_nil) (fun _ _ _ _ _ => (pc F_squeezed_card hr (by decide) (pa_cons (pv 6) (pa_cons (pv 3) pa_nil))))) pa_nil)) pa_nil)))))
      (pss_one (ps_ret (pv 5))))))))), ?_⟩
  obtain ⟨_, e, s, de, sl, pl, v, as, rfl, h, q⟩ := h
  have F := h.good.now
  have hsm := hands_small s h.good
  have n4 := F.n4
  have ht := F.tk
  have gsm : ∀ g ∈ s.now.hands ++ [s.now.trick], g.length ≤ 4 := fun g hg => by
    rcases List.mem_append.mp hg with hg | hg
    · exact hsm g hg
    · rw [List.mem_singleton.mp hg]; omega
  have glen : (s.now.hands ++ [s.now.trick]).length = 5 := by rw [List.length_append, n4]; rfl
  have gall : (s.now.hands ++ [s.now.trick]).flatMap (fun h => h) = Vbbraf.cardsOf s.now := by
    rw [List.flatMap_append, List.flatMap_singleton]
    rfl
  have call : (Vbbraf.cardsOf s.now).length ≤ 20 := by
    rw [← gall]
    have := flat_le (f := fun h : List Nat => h) gsm
    rw [glen] at this
    exact this
  refine ⟨_, rfl, e, de, _, rfl, h.he, rfl, e, s, de, sl, pl, v, as, rfl, h, fun x hx => ?_⟩
  obtain ⟨dx, hs, tk, h1, ⟨as', ha, h2⟩, h3⟩ := id hx
  refine ⟨_, rfl, x, dx, _, _, rfl, h1, rfl, hs, _, rfl, .inr (SqT.of ha), fun p1 hp1 => ?_⟩
  have s1 := same_new hp1 (.lst (as'.map V.ref))
  refine ⟨_, rfl, x, dx, _, _, rfl, s1 _ _ h1, rfl, sz 1 (by decide), fun p2 hp2 => ?_⟩
  have s2 := s1.trans (same_new hp2 (.lst [V.ref tk]))
  have al : as'.length = 4 := by rw [h2.len, n4]
  refine ⟨p1, p2, _, _, rfl, rfl, same_new hp2 _ _ _ upd_same, upd_same, sz _ (by rw [List.length_map, al]; show 4 + 1 ≤ 1000; decide), fun p3 hp3 => ?_⟩
  have s3 := s2.trans (same_new hp3 (.lst (as'.map V.ref ++ [V.ref tk])))
  refine ⟨sz 0 (by decide), fun ac hac => ?_⟩
  have s4 := s3.trans (same_new hac (.lst []))
  have ac0 := s3.free hac
  have P4 := same_new hac (.lst []) _ _ (upd_same (H := (upd (upd H p1 (.lst (as'.map V.ref))) p2 (.lst [V.ref tk]))) (a := p3) (o := .lst (as'.map V.ref ++ [V.ref tk])))
  have nac : p3 ≠ ac := ne_of_none upd_same hac
  have A4 : (upd (upd (upd (upd H p1 (.lst (as'.map V.ref))) p2 (.lst [V.ref tk])) p3 (.lst (as'.map V.ref ++ [V.ref tk]))) ac (.lst [])) ac = some (.lst []) := upd_same
  generalize upd (upd (upd (upd H p1 (.lst (as'.map V.ref))) p2 (.lst [V.ref tk])) p3 (.lst (as'.map V.ref ++ [V.ref tk]))) ac (.lst []) = G4 at s4 P4 A4 ⊢
  rw [show as'.map V.ref ++ [V.ref tk] = (as' ++ [tk]).map V.ref by rw [List.map_append]; rfl] at P4
  have tups : Tups H (as' ++ [tk]) (s.now.hands ++ [s.now.trick]) := Tups.snoc h3 h2
  have tlen : ((as' ++ [tk]).map V.ref).length = (s.now.hands ++ [s.now.trick]).length := by rw [List.length_map]; exact tups.len
  refine ⟨_, rfl, p3, rfl, ⟨_, SqL.of P4⟩, for_list (K := K) (xs := (as' ++ [tk]).map V.ref) (fun i σ H' => Same H H' ∧ H' p3 = some (.lst ((as' ++ [tk]).map V.ref)) ∧ H' ac = some (.lst (nv (((s.now.hands ++ [s.now.trick]).take i).flatMap fun h => h))) ∧ ∃ z, σ = [some (.ref e), some (.ref x), some (.ref p3), some (.ref ac), z, none, none])
    ⟨s4, P4, A4, none, rfl⟩ (fun i σ H' _ g => SqL.of g.2.1) (fun i y σ H' hi g => ?_) (fun σ H' g => ?_)⟩
  · rw [List.getElem?_map] at hi
    cases ei : (as' ++ [tk])[i]? with
    | none => rw [ei] at hi; cases hi
    | some b =>
      rw [ei] at hi
      have hi' := Option.some.inj hi
      subst hi'
      obtain ⟨r, hr', hb⟩ := tups.at ei
      obtain ⟨g1, g2, g3, z, rfl⟩ := g
      have hlt : i < 5 := by
        have := (List.getElem?_eq_some_iff.mp hr').1
        omega
      refine ⟨_, rfl, .inl ⟨rfl, _, SqL.of g3⟩, _, rfl, ac, b, _, _, rfl, rfl, g3, SqT.of (g1 _ _ hb), ?_, same_upd ac0 g1 _, ?_, ?_, _, rfl⟩
      · rw [nv_len, nv_len]
        have h1 := flat_le (f := fun h : List Nat => h) (l := (s.now.hands ++ [s.now.trick]).take i) fun g hg => gsm g (List.mem_of_mem_take hg)
        rw [List.length_take] at h1
        have h2 := gsm r (List.mem_of_getElem? hr')
        exact sz _ (by omega)
      · rw [upd_ne nac]
        exact g2
      · rw [upd_same, take_more hr', List.flatMap_append, List.flatMap_singleton, nv_app]
  · obtain ⟨g1, g2, g3, z, rfl⟩ := g
    rw [tlen, List.take_length, gall] at g3
    refine ⟨sz 1 (by decide), fun nl hnl => ?_⟩
    have s5 := g1.trans (same_new hnl (.lst [V.int 0]))
    have nl0 := g1.free hnl
    have nnac : ac ≠ nl := ne_of_none g3 hnl
    have nnp3 : p3 ≠ nl := ne_of_none g2 hnl
    refine ⟨_, rfl, p3, rfl, ⟨_, SqL.of (same_new hnl _ _ _ g2)⟩, for_list (K := K) (xs := (as' ++ [tk]).map V.ref) (fun i σ H' => Same H H' ∧ H' p3 = some (.lst ((as' ++ [tk]).map V.ref)) ∧ H' ac = some (.lst (nv (Vbbraf.cardsOf s.now))) ∧ H' nl = some (.lst (nv (0 :: ((s.now.hands ++ [s.now.trick]).take i).flatMap fun g => counted (g.map (Vbbraf.squeezedCard s.now))))) ∧ ∃ z, σ = [some (.ref e), some (.ref x), some (.ref p3), some (.ref ac), z, some (.ref nl), none])
      ⟨s5, same_new hnl _ _ _ g2, same_new hnl _ _ _ g3, upd_same, _, rfl⟩ (fun i σ H' _ g => SqL.of g.2.1) (fun i y σ H' hi g => ?_) (fun σ H' g => ?_)⟩
    · rw [List.getElem?_map] at hi
      cases ei : (as' ++ [tk])[i]? with
      | none => rw [ei] at hi; cases hi
      | some b =>
        rw [ei] at hi
        have hi' := Option.some.inj hi
        subst hi'
        obtain ⟨r, hr', hb⟩ := tups.at ei
        obtain ⟨g1, g2, g3, g4, z, rfl⟩ := g
        have hlt : i < 5 := by
          have := (List.getElem?_eq_some_iff.mp hr').1
          omega
        have r4 := gsm r (List.mem_of_getElem? hr')
        refine ⟨_, rfl, .inl ⟨rfl, _, SqL.of g4⟩, _, rfl, b, rfl, ⟨_, SqT.of (g1 _ _ hb)⟩, fun c hc => ?_⟩
        refine lc_tup (K := K) (xs := nv r) (fun j H2 => Same H' H2 ∧ H2 c = some (.lst (nv ((r.take j).map (Vbbraf.squeezedCard s.now))))) ⟨same_new hc _, upd_same⟩ (fun j H2 _ k => SqT.of (k.1 _ _ (g1 _ _ hb))) (fun j y H2 hj k => ?_) (fun H2 k => ?_)
        · obtain ⟨n, hn, rfl⟩ := of_nv hj
          have hjl : j < r.length := (List.getElem?_eq_some_iff.mp hn).1
          refine ⟨rfl, _, rfl, _, rfl, rfl, ac, n, Vbbraf.cardsOf s.now, rfl, k.1 _ _ g3, by omega, fun H3 s3 => ⟨_, s3 _ _ k.2, ?_, same_upd hc (k.1.trans s3) _, ?_⟩⟩
          · rw [nv_len, List.length_map, List.length_take]
            exact szl _ (by omega)
          · rw [upd_same, sqz_cast F, take_more hn, List.map_append, nv_app]
            rfl
        · obtain ⟨k1, k2⟩ := k
          rw [nv_len, List.take_length] at k2
          refine ⟨rfl, c, _, rfl, .inl (SqL.of k2), by rw [List.length_map]; omega, fun p5 H5 s5 hp5 => ?_⟩
          have s25 := (k1.trans s5).trans (same_new hp5 (.lst (nv (counted (r.map (Vbbraf.squeezedCard s.now))))))
          have L5 := s25 _ _ g4
          refine ⟨nl, p5, _, _, rfl, rfl, L5, upd_same, ?_, same_upd nl0 (g1.trans s25) _, ?_, ?_, ?_, _, rfl⟩
          · rw [nv_len, nv_len, List.length_cons]
            have h1 := flat_le (f := fun g : List Nat => counted (g.map (Vbbraf.squeezedCard s.now))) (k := 5) (l := (s.now.hands ++ [s.now.trick]).take i) fun g hg => by
              have := gsm g (List.mem_of_mem_take hg)
              show (g.map _).length + 1 ≤ 5
              rw [List.length_map]
              omega
            rw [List.length_take] at h1
            show _ + ((r.map (Vbbraf.squeezedCard s.now)).length + 1) ≤ _
            rw [List.length_map]
            exact sz _ (by omega)
          · rw [upd_ne nnp3]
            exact s25 _ _ g2
          · rw [upd_ne nnac]
            exact s25 _ _ g3
          · rw [upd_same, take_more hr', List.flatMap_append, List.flatMap_singleton, ← List.cons_append, nv_app]
    · obtain ⟨g1, g2, g3, g4, z, rfl⟩ := g
      rw [tlen, List.take_length, List.flatMap_append, List.flatMap_singleton] at g4
      refine ⟨_, rfl, ?_⟩
      have sd := same_del nl0 g1
      have fin := q.use (l := (s.now.hands.flatMap fun g => counted (g.map (Vbbraf.squeezedCard s.now))) ++ counted (s.now.trick.map (Vbbraf.squeezedCard s.now))) (by
        show yes s (((s.now.hands.map fun h => h.map (Vbbraf.squeezedCard s.now)).flatMap counted) ++ counted (s.now.trick.map (Vbbraf.squeezedCard s.now))) = _
        rw [List.flatMap_map]) h (Kp.of sd) (h.val.same sd) del_self
      rw [upd_del g4] at fin
      exact fin
end
end Lt
/-! # LtX5: play, back -/
namespace Lt
open PySem PySem.Spec PyProof.Rows L2
open Vbbraf (State handOf turnOf held toCome legal value valueBy behind gained playedBy dealt yes no step counted line isCard nats suitOf ownerOf)
section
variable {a : Ads} {w : World} {H H1 : Hp} {e : Addr} {s : State} {de sl pl v : Addr} {as : List Addr}
theorem Yes.use2 {r : State × List Int} {Q : VK} {l : List Nat} {s' : State} (q : Yes a w H e r Q) (hr : r = yes s' l) (f : Fr a e H H1) (h1 : EndAt a w H1 e s') {p : Addr} (hp : H1 p = none) : Q (.ref p) (upd H1 p (.lst (nv (0 :: l)))) := by
  have := q p H1 f (by rw [hr]; exact h1) hp
  rw [hr, yes_nv] at this
  exact this
theorem fr_two (he : H e = some (.ins a.E de (nE.zip [.ref sl, .ref pl, .ref v]))) (k : ∀ b o, H b = some o → NoExt o → b ≠ sl → b ≠ pl → H1 b = some o) (n1 : e ≠ sl) (n2 : e ≠ pl) : Fr a e H H1 := fun b o hb n m =>
  ⟨k b o hb n (fun z => m (.inr ⟨de, sl, pl, v, he, .inl z⟩)) (fun z => m (.inr ⟨de, sl, pl, v, he, .inr z⟩)), fun y => m (by
    rcases y with y | ⟨de', sl', pl', v', y1, y2⟩
    · exact .inl y
    · rw [k e _ he trivial n1 n2, ← he] at y1
      exact .inr ⟨de', sl', pl', v', y1, y2⟩)⟩
theorem StAt.lst {x l : Addr} {p : Vbbraf.Pos} {w0 w1 : Nat} {xs : List V} {o : HO} (h : StAt a H x p w0 w1) (hl : H l = some (.lst xs)) : StAt a (upd H l o) x p w0 w1 :=
  let ⟨dx, ps, wn, h1, h2, h3⟩ := h
  ⟨dx, ps, wn, keep_lst hl _ _ h1 (fun _ z => by cases z), h2.lst hl, keep_lst hl _ _ h3 (fun _ z => by cases z)⟩
theorem stAt_less {c : Nat} {i : Nat} (h : i ≤ s.played.length) : stAt (playedBy s c) i = stAt s i := by
  show ((s.played ++ [c]).take i).foldl playedBy (dealt s.first) = (s.played.take i).foldl playedBy (dealt s.first)
  rw [List.take_append_of_le_length h]
theorem stAt_play {c : Nat} (G : Good s) (hc : c ∈ legal s.now) : stAt (playedBy s c) (s.played.length + 1) = playedBy s c := by
  have := stAt_now (G.play hc)
  rw [show (playedBy s c).played.length = s.played.length + 1 by show (s.played ++ [c]).length = _; rw [List.length_append]; rfl] at this
  exact this
end
section
variable {P : Program} {w : World} {K : PySem.W.Frag} {mg : Str → Option Value} {base : Heap} {a : Ads}
def sp_play (a : Ads) (w : World) : Sp := fun vs H Q E => vs.length = 2 ∧ ∃ e s de sl pl v as c, vs = [.ref e, .int c] ∧ EndIs a w H e s de sl pl v as ∧ Yes a w H e (step s (.play c)) Q ∧ No a w H e s (step s (.play c)) E
theorem ok_play (D : Dn K mg "play" s_play) (T : Txt K mg a) (F_allow : FnA P w K mg base (L2.CX P w) 3 "allow" (sp_allow a)) (F_allow_card : FnA P w K mg base (L2.CX P w) 4 "allow_card" (sp_allow_card a)) (F_cards_left : FnA P w K mg base CX0 1 "cards_left" (sp_cards_left a))
    (F_hand_on_turn : FnA P w K mg base CX0 2 "hand_on_turn" (sp_hand_on_turn a)) (F_playable : FnA P w K mg base CX0 3 "playable" (sp_playable a)) (F_position_after : FnA P w K mg base CX0 4 "position_after" (sp_position_after a)) (F_won_after : FnA P w K mg base CX0 5 "won_after" (sp_won_after a))
    (F_turn_numbers : FnA P w K mg base CX0 2 "turn_numbers" (sp_turn_numbers a w)) (K_S : MkA P w K mg base 1 "State" a.S (spRec a.S nS)) (M_present : MtA P w K mg base 1 a.E "present" (sp_present a w)) : FnA P w K mg base (L2.CX P w) 6 "play" (sp_play a w) := by
  refine D.okX sc_play (fun _ _ _ _ _ _ us hl => match us, hl with | [_, _], _ => rfl) (fun _ _ _ _ h => h.1) fun f cdv A outer s H vs Q E hr h => ⟨_, (pss_cons (ps_expr (pcx F_allow_card hr (by decide) (takes_of rfl rfl rfl rfl) (pa_cons (pv 1) pa_nil)))
      (pss_cons (ps_set (i := 2) sc_play.nd rfl (Or.inl rfl) (pm0 (names := nE) M_present hr (by decide) (by decide) (pv 0)))
      (pss_cons (ps_expr (pcx F_allow hr (by decide) (takes_of rfl rfl rfl rfl) (pa_cons (pe_cmpR op_gt (pc F_cards_left hr (by decide) (pa_cons (pv 2) pa_nil)) pe_int (nomark _)) (pa_cons (pe_un un_neg pe_int) pa_nil))))
      (pss_cons (ps_expr (pcx F_allow hr (by decide) (takes_of rfl rfl rfl rfl) (pa_cons (pe_cmpR (op_inK (K := K)) (pv 1) (pc F_hand_on_turn hr (by decide) (pa_cons (pv 2) pa_nil)) (by with_unfolding_all rfl)) (pa_cons (pe_un un_neg pe_int) pa_nil))))
      (pss_cons (ps_expr (pcx F_allow hr (by decide) (takes_of rfl rfl rfl rfl) (pa_cons (pe_cmpR (op_inK (K := K)) (pv 1) (pc F_playable hr (by decide) (pa_cons (pv 2) pa_nil)) (by with_unfolding_all rfl)) (pa_cons (pe_un un_neg pe_int) pa_nil))))
      (pss_cons (ps_expr (pe_bm PySem.F.plainAttrs_list PySem.F.slot_list_append PySem.F.type_list_append mt_append (pe_f 0 T.kE (pv 0)) (pa_cons (pmk K_S hr (by decide) (pa_cons (pc F_position_after hr (by decide) (pa_cons (pv 2) (pa_cons (pv 1) pa_nil))) (pa_cons (pc F_won_after hr (by decide) (pa_cons (pe_ix (ix_listK (K := K)) (pe_f 0 T.kE (pv 0)) (pe_un un_neg pe_int) (fun _ _ => rfl)) (pa_cons (pv 1) pa_nil))) pa_nil))) pa_nil)))
      (pss_cons (ps_expr (pe_bm PySem.F.plainAttrs_list PySem.F.slot_list_append PySem.F.type_list_append mt_append (pe_f 1 T.kE (pv 0)) (pa_cons (pv 1) pa_nil)))
      (pss_one (ps_ret (pe_op op_cat (pe_lst (pa_cons pe_int pa_nil)) (pc F_turn_numbers hr (by decide) (pa_cons (pv 0) pa_nil)))))))))))), ?_⟩
  obtain ⟨_, e, s, de, sl, pl, v, as, z, rfl, h, q, n⟩ := h
  have st : step s (.play z) = if isCard z = false then no s 1 else if held s.now = 0 then no s 3 else if (handOf s.now (turnOf s.now)).contains z.toNat = false then no s 4 else if (legal s.now).contains z.toNat = false then no s 5
      else yes (playedBy s z.toNat) [turnOf (playedBy s z.toNat).now, (playedBy s z.toNat).won, (playedBy s z.toNat).lost] := rfl
  refine ⟨_, rfl, rfl, z, rfl, fun cc => ?_, fun cc => n.use (st.trans (if_pos cc)) h (Kp.refl H) h.val⟩
  rw [if_neg (by rw [cc]; exact Bool.noConfusion)] at st
  obtain ⟨c, rfl⟩ : ∃ c : Nat, z = (c : Int) := by
    rw [isCard_iff, Bool.and_eq_true_iff] at cc
    exact ⟨z.toNat, (Int.toNat_of_nonneg (of_decide_eq_true cc.1)).symm⟩
  rw [Int.toNat_natCast] at st
  refine ⟨_, rfl, e, de, _, rfl, h.he, rfl, e, s, de, sl, pl, v, as, rfl, h, fun x hx => ?_⟩
  have F := h.good.now
  have n4 := F.n4
  refine ⟨_, rfl, rfl, x, s.now, rfl, hx, n4, fun H1 s1 => ⟨_, _, rfl, rfl, _, rfl, rfl, _, _, rfl, fun c1 => ?_, fun c1 => n.use (st.trans (if_pos (by have := of_decide_eq_false c1; omega))) h (Kp.of s1) (h.val.same s1)⟩⟩
  have c1' := of_decide_eq_true c1
  rw [if_neg (by omega)] at st
  have hx1 := hx.same s1
  have h1 := h.same s1
  have hund := (h1.at hx1).hund
  refine ⟨_, rfl, _, rfl, rfl, x, s.now, rfl, hx1, n4, fun b hb => use_in (.inr (SqT.of hb)) ⟨_, rfl, rfl, _, _, rfl, fun c2 => ?_, fun c2 => n.use (st.trans (if_pos c2)) h (Kp.of s1) (h.val.same s1)⟩⟩
  rw [if_neg (by rw [c2]; exact Bool.noConfusion)] at st
  refine ⟨_, rfl, _, rfl, rfl, x, s.now, rfl, hx1, n4, hund, fun b2 H2 s2 hb2 => use_in (.inr (SqT.of hb2)) ⟨_, rfl, rfl, _, _, rfl, fun c3 => ?_, fun c3 => n.use (st.trans (if_pos c3)) h (Kp.of (s1.trans s2)) (h.val.same (s1.trans s2))⟩⟩
  rw [if_neg (by rw [c3]; exact Bool.noConfusion)] at st
  have hm : c ∈ legal s.now := List.contains_iff_mem.mp c3
  have h2 := h1.same s2
  have hx2 := hx1.same s2
  refine ⟨_, rfl, e, de, _, _, rfl, h2.he, rfl, .inl ⟨rfl, _, SqL.of h2.hs⟩, _, rfl, _, rfl, rfl, x, s.now, c, rfl, hx2, n4, hund, F.tk, fun y3 H3 s3 hy3 => ?_⟩
  have h3 := h2.same s3
  obtain ⟨xl, el, hsl⟩ := h3.lastI
  refine ⟨_, rfl, e, de, _, _, rfl, h3.he, rfl, _, rfl, sl, _, _, _, rfl, rfl, SqL.of h3.hs, el, _, rfl, rfl, xl, s.now, s.won, s.lost, c, rfl, hsl, F.tk, fun t4 H4 s4 ht4 => ?_⟩
  refine use_recR rfl fun x5 H5 hx5 s5 ⟨d5, e5⟩ => ?_
  have h5 := (h3.same s4).same s5
  have st5 : StAt a H5 x5 (playedBy s c).now (playedBy s c).won (playedBy s c).lost := ⟨d5, y3, t4, e5, hy3.same (s4.trans s5), s5 _ _ ht4⟩
  have hlen := h.good.held
  refine ⟨sl, _, _, rfl, rfl, h5.hs, ?_, ?_⟩
  · rw [List.length_map, h.len]
    exact szl _ (by omega)
  have s05 : Same H H5 := (((s1.trans s2).trans s3).trans s4).trans s5
  have nes : e ≠ sl := ne_of h5.he h5.hs fun z => by cases z
  have nep : e ≠ pl := ne_of h5.he h5.hp fun z => by cases z
  have he6 := keep_lst (o := .lst (as.map V.ref ++ [.ref x5])) h5.hs _ _ h5.he fun _ z => by cases z
  have hp6 : (upd H5 sl (.lst (as.map V.ref ++ [.ref x5]))) pl = some (.lst (nv s.played)) := (upd_ne (Ne.symm h.ne)).trans h5.hp
  refine ⟨_, rfl, e, de, _, _, rfl, he6, rfl, .inl ⟨rfl, _, SqL.of hp6⟩, _, rfl, pl, _, _, rfl, rfl, hp6, ?_, ?_⟩
  · rw [nv_len]
    exact szl _ (by omega)
  have he7 := keep_lst (o := .lst (nv s.played ++ [.int ((c : Nat) : Int)])) hp6 _ _ he6 fun _ z => by cases z
  have fr : Fr a e H (upd (upd H5 sl (.lst (as.map V.ref ++ [.ref x5]))) pl (.lst (nv s.played ++ [.int ((c : Nat) : Int)]))) := fr_two h.he (fun b o hb no n1 n2 => by rw [upd_ne n2, upd_ne n1]; exact s05 _ _ hb) nes nep
  have E7 : EndIs a w (upd (upd H5 sl (.lst (as.map V.ref ++ [.ref x5]))) pl (.lst (nv s.played ++ [.int ((c : Nat) : Int)]))) e (playedBy s c) de sl pl v (as ++ [x5]) := by
    refine ⟨he7, ?_, ?_, h.ne, ?_, fun i y hi => ?_, (h5.val.lst h5.hs).lst hp6, h.good.play hm⟩
    · rw [upd_ne h.ne, upd_same, List.map_append]
      rfl
    · rw [upd_same]
      show _ = some (HO.lst (nv (s.played ++ [c])))
      rw [nv_app]
      rfl
    · show _ = (s.played ++ [c]).length + 1
      rw [List.length_append, List.length_append, h.len]
      rfl
    · by_cases hlt : i < as.length
      · rw [List.getElem?_append_left hlt] at hi
        rw [stAt_less (by rw [h.len] at hlt; omega)]
        exact ((h5.sts i y hi).lst h5.hs).lst hp6
      · have hi2 : i = as.length := by
          have := (List.getElem?_eq_some_iff.mp hi).1
          rw [List.length_append, List.length_singleton] at this
          omega
        subst hi2
        rw [List.getElem?_append_right (Nat.le_refl _), Nat.sub_self] at hi
        have : x5 = y := Option.some.inj hi
        subst this
        rw [h.len, stAt_play h.good hm]
        exact (st5.lst h5.hs).lst hp6
  generalize (upd (upd H5 sl (.lst (as.map V.ref ++ [.ref x5]))) pl (.lst (nv s.played ++ [.int ((c : Nat) : Int)]))) = H7 at fr E7 ⊢
  refine ⟨sz 1 (by decide), fun p8 hp8 => ?_⟩
  have s8 := same_new hp8 (.lst (nv [0]))
  refine ⟨_, rfl, rfl, e, playedBy s c, de, sl, pl, v, _, rfl, E7.same s8, fun p9 H9 s9 hp9 => ?_⟩
  have s79 := (s8.trans s9).trans (same_new hp9 (.lst (nv [turnOf (playedBy s c).now, (playedBy s c).won, (playedBy s c).lost])))
  refine cat_nv (xs := [0]) (same_new hp9 _ _ _ (s9 _ _ upd_same)) upd_same (by show 1 + 3 ≤ 1000; decide) fun p hp => ?_
  exact q.use2 st (fr.trans (E7.fr (Kp.of s79))) ⟨de, sl, pl, v, _, E7.same s79⟩ hp
theorem ok_back (D : Dn K mg "back" s_back) (T : Txt K mg a) (F_allow : FnA P w K mg base (L2.CX P w) 3 "allow" (sp_allow a)) (F_turn_numbers : FnA P w K mg base CX0 2 "turn_numbers" (sp_turn_numbers a w)) : FnA P w K mg base (L2.CX P w) 4 "back" (sp_c1 a w .back) := by
  refine D.okX sc_back (fun _ _ _ _ _ _ us hl => match us, hl with | [_], _ => rfl) (fun _ _ _ _ h => h.1) fun f cdv A outer s H vs Q E hr h => ⟨_, (pss_cons (ps_expr (pcx F_allow hr (by decide) (takes_of rfl rfl rfl rfl) (pa_cons (pe_cmpR op_gt (pe_callB (cl_len (K := K)) (by rfl) T.m_len PySem.boot_len (pa_cons (pe_f 1 T.kE (pv 0)) pa_nil)) pe_int (nomark _)) (pa_cons (pe_un un_neg pe_int) pa_nil))))
      (pss_cons (ps_expr (pe_bm0 PySem.F.plainAttrs_list PySem.F.slot_list_pop PySem.F.type_list_pop mt_pop (pe_f 0 T.kE (pv 0))))
      (pss_cons (ps_expr (pe_bm0 PySem.F.plainAttrs_list PySem.F.slot_list_pop PySem.F.type_list_pop mt_pop (pe_f 1 T.kE (pv 0))))
      (pss_one (ps_ret (pe_op op_cat (pe_lst (pa_cons pe_int pa_nil)) (pc F_turn_numbers hr (by decide) (pa_cons (pv 0) pa_nil)))))))), ?_⟩
  obtain ⟨_, e, s, de, sl, pl, v, as, rfl, h, q, n⟩ := h
  have st : step s .back = if s.played.isEmpty = true then no s 3 else yes (s.played.dropLast.foldl playedBy (dealt s.first)) [turnOf (s.played.dropLast.foldl playedBy (dealt s.first)).now, (s.played.dropLast.foldl playedBy (dealt s.first)).won, (s.played.dropLast.foldl playedBy (dealt s.first)).lost] := rfl
  refine ⟨_, rfl, e, de, _, _, rfl, h.he, rfl, pl, _, rfl, .inl (SqL.of h.hp), _, _, rfl, rfl, _, rfl, rfl, _, _, rfl, fun c1 => ?_, fun c1 => n.use (st.trans (if_pos ?_)) h (Kp.refl H) h.val⟩
  · have c1' := of_decide_eq_true c1
    rw [nv_len] at c1'
    have hne : s.played ≠ [] := fun z => by rw [z] at c1'; exact absurd c1' (by decide)
    rw [if_neg (fun z => hne (List.isEmpty_iff.mp z))] at st
    obtain ⟨s', c, G', hc, es, ep, ef, ed⟩ := h.good.undo hne
    rw [ed] at st
    have hal : as.length = s.played.length + 1 := h.len
    have hpl' : s.played.length = s'.played.length + 1 := by rw [ep, List.length_append]; rfl
    have hlast : (as.map V.ref)[(as.map V.ref).length - 1]? = some (.ref (as[as.length - 1]'(by omega))) := by
      rw [List.length_map, List.getElem?_map, List.getElem?_eq_getElem (by omega)]
      rfl
    refine ⟨_, rfl, e, de, _, _, rfl, h.he, rfl, .inl ⟨rfl, _, SqL.of h.hs⟩, sl, _, _, rfl, rfl, h.hs, hlast, ?_⟩
    have nes : e ≠ sl := ne_of h.he h.hs fun z => by cases z
    have nep : e ≠ pl := ne_of h.he h.hp fun z => by cases z
    have he6 := keep_lst (o := .lst (as.map V.ref).dropLast) h.hs _ _ h.he fun _ z => by cases z
    have hp6 : (upd H sl (.lst (as.map V.ref).dropLast)) pl = some (.lst (nv s.played)) := (upd_ne (Ne.symm h.ne)).trans h.hp
    have plast : (nv s.played)[(nv s.played).length - 1]? = some (.int (c : Int)) := by
      rw [nv_len]
      refine nv_get ?_
      rw [ep, List.length_append, List.length_singleton, Nat.add_sub_cancel, List.getElem?_append_right (Nat.le_refl _), Nat.sub_self]
      rfl
    refine ⟨_, rfl, e, de, _, _, rfl, he6, rfl, .inl ⟨rfl, _, SqL.of hp6⟩, pl, _, _, rfl, rfl, hp6, plast, ?_⟩
    have he7 := keep_lst (o := .lst (nv s.played).dropLast) hp6 _ _ he6 fun _ z => by cases z
    have fr : Fr a e H (upd (upd H sl (.lst (as.map V.ref).dropLast)) pl (.lst (nv s.played).dropLast)) := fr_two h.he (fun b o hb no n1 n2 => by rw [upd_ne n2, upd_ne n1]; exact hb) nes nep
    have E7 : EndIs a w (upd (upd H sl (.lst (as.map V.ref).dropLast)) pl (.lst (nv s.played).dropLast)) e s' de sl pl v as.dropLast := by
      refine ⟨he7, ?_, ?_, h.ne, ?_, fun i y hi => ?_, ?_, G'⟩
      · rw [upd_ne h.ne, upd_same, ← List.map_dropLast]
      · rw [upd_same, ep, nv_app]
        show some (HO.lst (nv s'.played ++ [V.int (c : Int)]).dropLast) = _
        rw [List.dropLast_concat]
      · rw [List.length_dropLast]
        omega
      · have hlt : i < as.length - 1 := by
          have := (List.getElem?_eq_some_iff.mp hi).1
          rw [List.length_dropLast] at this
          exact this
        have hi' : as[i]? = some y := by
          rw [List.getElem?_eq_some_iff] at hi ⊢
          obtain ⟨h1, h2⟩ := hi
          exact ⟨by omega, by rw [← h2, List.getElem_dropLast]⟩
        have z := h.sts i y hi'
        have e1 : stAt s i = stAt s' i := by
          rw [es]
          exact stAt_less (by omega)
        rw [e1] at z
        exact (z.lst h.hs).lst hp6
      · rw [ef]
        exact (h.val.lst h.hs).lst hp6
    generalize upd (upd H sl (.lst (as.map V.ref).dropLast)) pl (.lst (nv s.played).dropLast) = H7 at fr E7 ⊢
    refine ⟨sz 1 (by decide), fun p8 hp8 => ?_⟩
    have s8 := same_new hp8 (.lst (nv [0]))
    refine ⟨_, rfl, rfl, e, s', de, sl, pl, v, _, rfl, E7.same s8, fun p9 H9 s9 hp9 => ?_⟩
    have s79 := (s8.trans s9).trans (same_new hp9 (.lst (nv [turnOf s'.now, s'.won, s'.lost])))
    refine cat_nv (xs := [0]) (same_new hp9 _ _ _ (s9 _ _ upd_same)) upd_same (by show 1 + 3 ≤ 1000; decide) fun p hp => ?_
    exact q.use2 st (fr.trans (E7.fr (Kp.of s79))) ⟨de, sl, pl, v, _, E7.same s79⟩ hp
  · have := of_decide_eq_false c1
    rw [nv_len] at this
    rw [List.isEmpty_iff]
    exact List.eq_nil_of_length_eq_zero (by omega)
end
end Lt
/-! # LtX6: deal -/
namespace Lt
open PySem PySem.Spec PyProof.Rows L2
open Vbbraf (State handOf turnOf held toCome legal value valueBy behind gained playedBy dealt yes no step counted line isCard nats suitOf ownerOf put sorted noneTwice)
theorem put_perm (c : Nat) : ∀ l, (put c l).Perm (c :: l)
  | [] => .refl _
  | d :: r => by
    show (if c ≤ d then c :: d :: r else d :: put c r).Perm _
    split
    · exact .refl _
    · exact ((put_perm c r).cons d).trans (List.Perm.swap _ _ _)
theorem put_pw (c : Nat) : ∀ {l : List Nat}, l.Pairwise (· ≤ ·) → (put c l).Pairwise (· ≤ ·)
  | [], _ => by simp [put]
  | d :: r, h => by
    show (if c ≤ d then c :: d :: r else d :: put c r).Pairwise _
    obtain ⟨h1, h2⟩ := List.pairwise_cons.mp h
    split
    · rename_i q
      refine List.pairwise_cons.mpr ⟨fun x hx => ?_, h⟩
      rcases List.mem_cons.mp hx with e | e
      · rw [e]; exact q
      · exact Nat.le_trans q (h1 x e)
    · rename_i q
      refine List.pairwise_cons.mpr ⟨fun x hx => ?_, put_pw c h2⟩
      rcases List.mem_cons.mp ((put_perm c r).mem_iff.mp hx) with e | e
      · rw [e]; omega
      · exact h1 x e
theorem sorted_perm : ∀ l, (sorted l).Perm l
  | [] => .refl _
  | c :: r => (put_perm c _).trans ((sorted_perm r).cons c)
theorem sorted_pw : ∀ l, (sorted l).Pairwise (· ≤ ·)
  | [] => List.Pairwise.nil
  | c :: r => put_pw c (sorted_pw r)
theorem sorted_one {ns : List Int} {l : List Nat} (p : ns.Perm (l.map fun (n : Nat) => (n : Int))) (pw : ns.Pairwise (· ≤ ·)) : ns = (sorted l).map fun (n : Nat) => (n : Int) :=
  List.Perm.eq_of_pairwise (le := (· ≤ ·)) (fun a b _ _ h1 h2 => Int.le_antisymm h1 h2) pw ((sorted_pw l).map _ fun a b h => Int.ofNat_le.mpr h) (p.trans ((sorted_perm l).map _).symm)
theorem none_iff : ∀ l : List Nat, noneTwice l = decide l.Nodup
  | [] => by simp [noneTwice]
  | c :: r => by
    show (!r.contains c && noneTwice r) = _
    rw [none_iff r, Bool.eq_iff_iff, decide_eq_true_eq, List.nodup_cons, Bool.and_eq_true_iff, decide_eq_true_eq]
    simp
theorem nats_nodup : ∀ {l : List Int}, l.all isCard = true → ((nats l).Nodup ↔ l.Nodup)
  | [], _ => by simp [nats]
  | z :: r, h => by
    rw [List.all_cons, Bool.and_eq_true_iff] at h
    have ih := nats_nodup h.2
    show (z.toNat :: nats r).Nodup ↔ _
    rw [List.nodup_cons, List.nodup_cons, ih]
    have : z.toNat ∈ nats r ↔ z ∈ r := by
      constructor
      · intro q
        obtain ⟨y, hy, e⟩ := List.mem_map.mp q
        have h1 := within_le h.1
        have h2 := within_le (List.all_eq_true.mp h.2 y hy)
        have : y = z := by omega
        rw [← this]; exact hy
      · exact fun q => List.mem_map.mpr ⟨z, q, rfl⟩
    rw [this]
def hd (r : List Int) : List Nat := sorted (nats r)
theorem hd_len (r : List Int) : (hd r).length = r.length := by
  unfold hd
  rw [(sorted_perm _).length_eq]
  exact List.length_map _
theorem cast_nats {x : List Int} (h : x.all isCard = true) : ((nats x).map fun (n : Nat) => (n : Int)) = x := by
  unfold nats
  rw [List.map_map]
  refine (List.map_congr_left (g := id) fun z hz => ?_).trans (List.map_id _)
  have := within_le (List.all_eq_true.mp h z hz)
  show ((z.toNat : Nat) : Int) = z
  omega
theorem hd_perm : ∀ rows : List (List Int), ((rows.map hd).flatMap fun h => h).Perm (nats (rows.flatMap fun h => h))
  | [] => .refl _
  | r :: rows => by
    rw [List.map_cons, List.flatMap_cons, List.flatMap_cons]
    unfold nats
    rw [List.map_append]
    exact (sorted_perm _).append (hd_perm rows)
def okRow (r : List Int) : Bool := decide (r.length ≤ 4) && r.all isCard
theorem okRow_all {rows : List (List Int)} (h : rows.all okRow = true) : (rows.flatMap fun h => h).all isCard = true := by
  rw [List.all_flatMap, List.all_eq_true]
  intro r hr
  have := List.all_eq_true.mp h r hr
  unfold okRow at this
  exact (Bool.and_eq_true_iff.mp this).2
theorem unlike_eq {rows : List (List Int)} (h : rows.all okRow = true) : noneTwice ((rows.map hd).flatMap fun h => h) = decide (rows.flatMap fun h => h).Nodup := by
  rw [none_iff, Bool.eq_iff_iff, decide_eq_true_eq, decide_eq_true_eq, (hd_perm rows).nodup_iff, nats_nodup (okRow_all h)]
theorem fine_deal {a b c d : List Int} {t l : Int} (ht : Vbbraf.within t 0 4 = true) (hl : Vbbraf.within l 0 3 = true) (ok : [a, b, c, d].all okRow = true) (le : ∀ r ∈ [a, b, c, d], r.length = a.length) (nd : ([a, b, c, d].flatMap fun h => h).Nodup) :
    Good (dealt ⟨[a, b, c, d].map hd, t.toNat, l.toNat, []⟩) := by
  have h1 := within_le ht
  have h2 := within_le hl
  have pm := hd_perm [a, b, c, d]
  have oka := okRow_all ok
  refine ⟨⟨rfl, ?_, ?_, by simp [dealt], ⟨a.length, fun s hs => ?_⟩, ?_, ?_⟩, rfl, fun h hh => ?_, .nil⟩
  · show t.toNat ≤ 4
    omega
  · show l.toNat ≤ 3
    omega
  · have z : hasPlayed (dealt ⟨[a, b, c, d].map hd, t.toNat, l.toNat, []⟩).first s = false := by unfold hasPlayed; simp [dealt]
    rw [z]
    show (([a, b, c, d].map hd).getD s []).length + 0 = a.length
    have hh : s = 0 ∨ s = 1 ∨ s = 2 ∨ s = 3 := by omega
    rcases hh with rfl | rfl | rfl | rfl
    · exact hd_len a
    · exact (hd_len b).trans (le b (by simp))
    · exact (hd_len c).trans (le c (by simp))
    · exact (hd_len d).trans (le d (by simp))
  · show ((([a, b, c, d].map hd).flatMap fun h => h) ++ []).Nodup
    rw [List.append_nil, pm.nodup_iff, nats_nodup oka]
    exact nd
  · intro x hx
    have hx' : x ∈ (([a, b, c, d].map hd).flatMap fun h => h) ++ [] := hx
    rw [List.append_nil, pm.mem_iff] at hx'
    obtain ⟨y, hy, e⟩ := List.mem_map.mp hx'
    have := within_le (List.all_eq_true.mp oka y hy)
    omega
  · have hh' : h ∈ [a, b, c, d].map hd := hh
    obtain ⟨r, hr, e⟩ := List.mem_map.mp hh'
    have := List.all_eq_true.mp ok r hr
    unfold okRow at this
    have := of_decide_eq_true (Bool.and_eq_true_iff.mp this).1
    rw [← e, hd_len]
    exact this
/-- rows as lists that are tracked -/
def RowsAt (H : Hp) : List Addr → List (List Int) → Prop
  | [], [] => True
  | r :: rs, x :: xs => H r = some (.lst (x.map V.int)) ∧ RowsAt H rs xs
  | _, _ => False
theorem RowsAt.len {H : Hp} : ∀ {rs : List Addr} {rows : List (List Int)}, RowsAt H rs rows → rs.length = rows.length
  | [], [], _ => rfl
  | _ :: _, _ :: _, h => by rw [List.length_cons, List.length_cons, h.2.len]
  | [], _ :: _, h => h.elim
  | _ :: _, [], h => h.elim
theorem RowsAt.at {H : Hp} : ∀ {rs : List Addr} {rows : List (List Int)} {i : Nat} {r : Addr}, RowsAt H rs rows → rs[i]? = some r → ∃ x, rows[i]? = some x ∧ H r = some (.lst (x.map V.int))
  | [], [], _, _, _, e => by simp at e
  | r :: rs, x :: xs, 0, _, h, e => ⟨x, rfl, by rw [← Option.some.inj e]; exact h.1⟩
  | r :: rs, x :: xs, i + 1, _, h, e => RowsAt.at (i := i) h.2 e
  | [], _ :: _, _, _, h, _ => h.elim
  | _ :: _, [], _, _, h, _ => h.elim
theorem RowsAt.same {H H' : Hp} (s : Same H H') : ∀ {rs : List Addr} {rows : List (List Int)}, RowsAt H rs rows → RowsAt H' rs rows
  | [], [], _ => trivial
  | _ :: _, _ :: _, h => ⟨s _ _ h.1, h.2.same s⟩
  | [], _ :: _, h => h.elim
  | _ :: _, [], h => h.elim
section
variable {P : Program} {w : World} {K : PySem.W.Frag} {mg : Str → Option Value} {base : Heap} {a : Ads}
theorem ref_at {rs : List Addr} {i : Nat} {y : V} (h : (rs.map V.ref)[i]? = some y) : ∃ r, rs[i]? = some r ∧ y = .ref r := by
  rw [List.getElem?_map] at h
  cases e : rs[i]? with
  | none => rw [e] at h; cases h
  | some r => rw [e] at h; exact ⟨r, rfl, (Option.some.inj h).symm⟩
def sp_deal (a : Ads) (w : World) (K : PySem.W.Frag) : Sp := fun vs H Q E => vs.length = 4 ∧ ∃ e s de sl pl v as hb r0 r1 r2 r3 t l x0 x1 x2 x3, vs = [.ref e, .int t, .int l, .ref hb] ∧ EndIs a w H e s de sl pl v as ∧ SqL K H hb [.ref r0, .ref r1, .ref r2, .ref r3] ∧ RowsAt H [r0, r1, r2, r3] [x0, x1, x2, x3] ∧
  Yes a w H e (step s (.deal t l x0 x1 x2 x3)) Q ∧ No a w H e s (step s (.deal t l x0 x1 x2 x3)) E
theorem ok_deal (D : Dn K mg "deal" s_deal) (T : Txt K mg a) (F_allow : FnA P w K mg base (L2.CX P w) 3 "allow" (sp_allow a)) (F_allow_cards : FnA P w K mg base (L2.CX P w) 5 "allow_cards" (sp_allow_cards a K)) (F_are_unlike : FnA P w K mg base CX0 1 "are_unlike" (sp_unlike K))
    (K_P : MkA P w K mg base 1 "Position" a.P (spRec a.P nP)) (K_S : MkA P w K mg base 1 "State" a.S (spRec a.S nS)) (K_V : MkA P w K mg base 1 "Valuer" a.V (sp_Valuer a.V w)) : FnA P w K mg base (L2.CX P w) 6 "deal" (sp_deal a w K) := by
  refine D.okX sc_deal (fun _ _ _ _ _ _ us hl => match us, hl with | [_, _, _, _], _ => rfl) (fun _ _ _ _ h => h.1) fun f cdv A outer s H vs Q E hr h => ⟨_, (pss_cons (ps_expr (pcx F_allow hr (by decide) (takes_of rfl rfl rfl rfl) (pa_cons (pe_and (pe_chain op_le op_le pe_int (pv 1) (pgc T.g_NO_TRUMP)) (pe_one (pe_chain op_le op_le pe_int (pv 2) pe_int))) (pa_cons (pe_un un_neg pe_int) pa_nil))))
      (pss_cons (ps_for (passes_of rfl) rfl (pi_list (pv 3)) (pg_name (i := 4) sc_deal.nd rfl (Or.inl rfl)) (pss_one (ps_expr (pcx F_allow_cards hr (by decide) (takes_of rfl rfl rfl rfl) (pa_cons (pv 4) (pa_cons (pgc T.g_MOST_IN_HAND) pa_nil))))))
      (pss_cons (ps_for (passes_of rfl) rfl (pi_list (pv 3)) (pg_name (i := 4) sc_deal.nd rfl (Or.inl rfl)) (pss_one (ps_expr (pcx F_allow hr (by decide) (takes_of rfl rfl rfl rfl) (pa_cons (pe_cmpR op_eq (pe_callB (cl_len (K := K)) (by rfl) T.m_len PySem.boot_len (pa_cons (pv 4) pa_nil)) (pe_callB (cl_len (K := K)) (by rfl) T.m_len PySem.boot_len (pa_cons (pe_ix (ix_listK (K := K)) (pv 3) pe_int (fun _ _ => rfl)) pa_nil)) (nomark _)) (pa_cons (pe_un un_neg pe_int) pa_nil))))))
      (pss_cons (ps_expr (pcx F_allow hr (by decide) (takes_of rfl rfl rfl rfl) (pa_cons (pc F_are_unlike hr (by decide) (pa_cons (pe_op op_cat (pe_op op_cat (pe_op op_cat (pe_ix (ix_listK (K := K)) (pv 3) pe_int (fun _ _ => rfl)) (pe_ix (ix_listK (K := K)) (pv 3) pe_int (fun _ _ => rfl))) (pe_ix (ix_listK (K := K)) (pv 3) pe_int (fun _ _ => rfl))) (pe_ix (ix_listK (K := K)) (pv 3) pe_int (fun _ _ => rfl))) pa_nil)) (pa_cons (pe_un un_neg pe_int) pa_nil))))
      (pss_cons (ps_set (i := 5) sc_deal.nd rfl (Or.inl rfl) (pe_callTy (cl_tuple (K := K)) (by rfl) T.m_tuple (by decide +kernel) (pa_cons (pe_lc (own := [("hand", 4)]) (g := gName 4) rfl sc_deal.nd (pi_list (pv 3)) (blkOk_by (own := [("hand", 4)]) (N := N_deal) (sc := defScope s_deal) (by decide +kernel)) (fun _ _ _ _ _ => pg_name (i := 4) sc_deal.nd rfl (Or.inl rfl)) (fun _ _ _ _ _ => pts_nil) (fun _ _ _ _ _ => (pe_callTy (cl_tuple (K := K)) (by rfl) T.m_tuple (by decide +kernel) (pa_cons (pe_callB (cl_sorted (K := K)) (by rfl) T.m_sorted (by decide +kernel) (pa_cons (pv 4) pa_nil)) pa_nil)))) pa_nil)))
      (pss_cons (ps_fSet 0 T.kE (pv 0) (pe_lst (pa_cons (pmk K_S hr (by decide) (pa_cons (pmk K_P hr (by decide) (pa_cons (pv 5) (pa_cons (pv 1) (pa_cons (pv 2) (pa_cons (pe_tup pa_nil) pa_nil))))) (pa_cons (pe_tup (pa_cons pe_int (pa_cons pe_int pa_nil))) pa_nil))) pa_nil)))
      (pss_cons (ps_fSet 1 T.kE (pv 0) (pe_lst pa_nil))
      (pss_cons (ps_fSet 2 T.kE (pv 0) (pmk0 K_V hr (by decide)))
      (pss_one (ps_ret (pe_lst (pa_cons pe_int pa_nil)))))))))))), ?_⟩
  obtain ⟨_, e, s, de, sl, pl, v, as, hb, r0, r1, r2, r3, t, l, x0, x1, x2, x3, rfl, h, hhb, hr, q, n⟩ := h
  have st : step s (.deal t l x0 x1 x2 x3) = if (Vbbraf.within t 0 4 && (Vbbraf.within l 0 3 && [x0, x1, x2, x3].all okRow)) = false then no s 1 else if ((([x0, x1, x2, x3].map hd).all fun h => h.length == x0.length) && noneTwice (([x0, x1, x2, x3].map hd).flatMap fun h => h)) = false then no s 2
      else yes (dealt ⟨[x0, x1, x2, x3].map hd, t.toNat, l.toNat, []⟩) [] := rfl
  refine and_within rfl rfl ⟨_, rfl, rfl, _, _, rfl, fun c1 => ?_, fun c1 => ?_⟩
  · rw [Bool.and_eq_true_iff] at c1
    obtain ⟨ct, cl⟩ := c1
    refine ⟨_, rfl, hb, rfl, ⟨_, hhb⟩, for_list (K := K) (xs := [r0, r1, r2, r3].map V.ref) (fun i σ H' => H' = H ∧ (∀ x ∈ [x0, x1, x2, x3].take i, okRow x = true) ∧ ∃ z, σ = [some (.ref e), some (.int t), some (.int l), some (.ref hb), z, none]) ⟨rfl, by simp, none, rfl⟩ (fun i σ H' _ g => by rw [g.1]; exact hhb) (fun i y σ H' hi g => ?_) (fun σ H' g => ?_)⟩
    · obtain ⟨r, er, rfl⟩ := ref_at hi
      obtain ⟨x, ex, hx⟩ := hr.at er
      obtain ⟨rfl, g2, z, rfl⟩ := g
      refine ⟨_, rfl, rfl, r, x, 4, rfl, SqL.of hx, fun c => ⟨rfl, fun y hy => ?_, _, rfl⟩, fun c => n.use (st.trans (if_pos ?_)) h (Kp.refl _) h.val⟩
      · rw [take_more ex] at hy
        rcases List.mem_append.mp hy with hy | hy
        · exact g2 y hy
        · rw [List.mem_singleton.mp hy]; exact c
      · rw [all_false (List.mem_of_getElem? ex) c, Bool.and_false, Bool.and_false]
    · obtain ⟨rfl, g2, z, rfl⟩ := g
      have ok : [x0, x1, x2, x3].all okRow = true := List.all_eq_true.mpr g2
      rw [if_neg (by rw [ct, cl, ok]; exact Bool.noConfusion)] at st
      refine ⟨_, rfl, hb, rfl, ⟨_, hhb⟩, for_list (K := K) (xs := [r0, r1, r2, r3].map V.ref) (fun i σ H2 => H2 = H' ∧ (∀ x ∈ [x0, x1, x2, x3].take i, x.length = x0.length) ∧ ∃ z, σ = [some (.ref e), some (.int t), some (.int l), some (.ref hb), z, none]) ⟨rfl, by simp, _, rfl⟩ (fun i σ H2 _ g => by rw [g.1]; exact hhb) (fun i y σ H2 hi g => ?_) (fun σ H2 g => ?_)⟩
      · obtain ⟨r, er, rfl⟩ := ref_at hi
        obtain ⟨x, ex, hx⟩ := hr.at er
        obtain ⟨rfl, g2, z, rfl⟩ := g
        refine ⟨_, rfl, r, _, rfl, .inl (SqL.of hx), _, rfl, hb, _, 0, _, rfl, rfl, hhb, rfl, r0, _, rfl, .inl (SqL.of hr.1), rfl, _, rfl, rfl, _, _, rfl, fun c => ⟨rfl, fun y hy => ?_, _, rfl⟩, fun c => n.use (st.trans (if_pos ?_)) h (Kp.refl _) h.val⟩
        · rw [take_more ex] at hy
          rcases List.mem_append.mp hy with hy | hy
          · exact g2 y hy
          · rw [List.mem_singleton.mp hy]
            rw [dint, List.length_map, List.length_map] at c
            have := of_decide_eq_true c
            omega
        · rw [dint, List.length_map, List.length_map] at c
          have := of_decide_eq_false c
          rw [all_false (x := hd x) (List.mem_map.mpr ⟨x, List.mem_of_getElem? ex, rfl⟩) (by rw [hd_len, beq_eq_false_iff_ne]; omega), Bool.false_and]
      · obtain ⟨rfl, g3, z, rfl⟩ := g
        have le : ∀ r ∈ [x0, x1, x2, x3], r.length = x0.length := g3
        have a1 : (([x0, x1, x2, x3].map hd).all fun h => h.length == x0.length) = true := by
          rw [List.all_eq_true]
          intro y hy
          obtain ⟨x, hx, e⟩ := List.mem_map.mp hy
          rw [← e, hd_len, le x hx]
          exact beq_self_eq_true _
        rw [a1, Bool.true_and, unlike_eq ok] at st
        have len4 : ∀ x ∈ [x0, x1, x2, x3], x.length ≤ 4 := fun x hx => by
          have := g2 x hx
          unfold okRow at this
          exact of_decide_eq_true (Bool.and_eq_true_iff.mp this).1
        have l0 := len4 x0 (by simp)
        have l1 := len4 x1 (by simp)
        have l2 := len4 x2 (by simp)
        have l3 := len4 x3 (by simp)
        obtain ⟨R0, R1, R2, R3, _⟩ := id hr
        refine ⟨_, rfl, hb, _, 0, _, rfl, rfl, hhb, rfl, _, rfl, hb, _, 1, _, rfl, rfl, hhb, rfl, r0, r1, _, _, rfl, rfl, R0, R1, sz _ (by rw [List.length_map, List.length_map]; omega), fun p1 hp1 => ?_⟩
        have s1 := same_new hp1 (.lst (x0.map V.int ++ x1.map V.int))
        refine ⟨_, rfl, hb, _, 2, _, rfl, rfl, (Kp.of s1).sqL hhb, rfl, p1, r2, _, _, rfl, rfl, upd_same, s1 _ _ R2, sz _ (by rw [List.length_append, List.length_map, List.length_map, List.length_map]; omega), fun p2 hp2 => ?_⟩
        have s2 := s1.trans (same_new hp2 (.lst (x0.map V.int ++ x1.map V.int ++ x2.map V.int)))
        refine ⟨_, rfl, hb, _, 3, _, rfl, rfl, (Kp.of s2).sqL hhb, rfl, p2, r3, _, _, rfl, rfl, upd_same, s2 _ _ R3, sz _ (by rw [List.length_append, List.length_append, List.length_map, List.length_map, List.length_map, List.length_map]; omega), fun p3 hp3 => ?_⟩
        have s3 := s2.trans (same_new hp3 (.lst (x0.map V.int ++ x1.map V.int ++ x2.map V.int ++ x3.map V.int)))
        have eq : x0.map V.int ++ x1.map V.int ++ x2.map V.int ++ x3.map V.int = ([x0, x1, x2, x3].flatMap fun h => h).map V.int := by simp
        refine ⟨rfl, p3, [x0, x1, x2, x3].flatMap fun h => h, rfl, SqL.of (by rw [upd_same, eq]), ?_, _, rfl, rfl, _, _, rfl, fun c => ?_, fun c => n.use (st.trans (if_pos c)) h (Kp.of s3) (h.val.same s3)⟩
        · have := flat_le (f := fun h : List Int => h) len4
          simp only [List.length_cons, List.length_nil] at this
          omega
        rw [if_neg (by rw [c]; exact Bool.noConfusion)] at st
        have G := fine_deal ct cl ok le (of_decide_eq_true c)
        have h3 := h.same s3
        have hr3 := hr.same s3
        have hhb3 := (Kp.of s3).sqL hhb
        generalize upd (upd (upd H2 p1 (.lst (x0.map V.int ++ x1.map V.int))) p2 (.lst (x0.map V.int ++ x1.map V.int ++ x2.map V.int))) p3 (.lst (x0.map V.int ++ x1.map V.int ++ x2.map V.int ++ x3.map V.int)) = H3 at s3 h3 hr3 hhb3 ⊢
        refine ⟨_, rfl, hb, rfl, ⟨_, hhb3⟩, fun u hu => ?_⟩
        refine lc_list (K := K) (xs := [r0, r1, r2, r3].map V.ref) (fun i H' => Same H3 H' ∧ ∃ ts, H' u = some (.lst (ts.map V.ref)) ∧ Tups H' ts (([x0, x1, x2, x3].take i).map hd)) ⟨same_new hu _, [], upd_same, trivial⟩ (fun i H' _ g => (Kp.of g.1).sqL hhb3) (fun i y H' hi g => ?_) (fun H' g => ?_)
        · obtain ⟨r, er, rfl⟩ := ref_at hi
          obtain ⟨x, ex, hx⟩ := hr3.at er
          obtain ⟨g1, ts, g2, g3⟩ := g
          have okx := g2
          have hxm := List.mem_of_getElem? ex
          have xc : x.all isCard = true := by
            have := List.all_eq_true.mp ok x hxm
            unfold okRow at this
            exact (Bool.and_eq_true_iff.mp this).2
          have hi4 : i < 4 := (List.getElem?_eq_some_iff.mp ex).1
          refine ⟨rfl, _, rfl, r, x, rfl, SqL.of (g1 _ _ hx), by have := len4 x hxm; omega, fun ns' p pm pw hp => ⟨p, _, rfl, .inl ⟨SqL.of upd_same, fun tt htt => ?_⟩⟩⟩
          have ens : ns' = (hd x).map fun (n : Nat) => (n : Int) := by
            refine sorted_one (l := nats x) ?_ pw
            rw [cast_nats xc]
            exact pm
          have ev : ns'.map V.int = nv (hd x) := by rw [ens, nv_ints]
          have sp := (same_new hp (.lst (ns'.map V.int))).trans (same_new htt (.tup (ns'.map V.int)))
          have u3 := g1.free hp
          have tslen : ts.length = i := by
            rw [g3.len, List.length_map, List.length_take]
            show min i 4 = i
            omega
          refine ⟨_, sp _ _ g2, ?_, same_upd hu (g1.trans sp) _, ts ++ [tt], ?_, ?_⟩
          · rw [List.length_map, tslen]
            exact szl _ (by omega)
          · rw [upd_same, List.map_append]
            rfl
          · have ntu : tt ≠ u := fun z => by
              have := same_new hp (.lst (ns'.map V.int)) _ _ g2
              rw [← z, htt] at this
              cases this
            rw [take_more ex, List.map_append]
            have keepT : ∀ b xs, H' b = some (.tup xs) → (upd (upd (upd H' p (.lst (ns'.map V.int))) tt (.tup (ns'.map V.int))) u (.lst (ts.map V.ref ++ [V.ref tt]))) b = some (.tup xs) := fun b xs hb' => keep_lst (sp _ _ g2) _ _ (sp _ _ hb') fun _ z => by cases z
            refine Tups.snoc ?_ (g3.imp keepT)
            rw [upd_ne ntu, upd_same, ev]
        · obtain ⟨g1, ts, g2, g3⟩ := g
          have g3' : Tups H' ts ([x0, x1, x2, x3].map hd) := g3
          refine ⟨u, _, rfl, .inl ⟨SqL.of g2, fun p4 hp4 => ?_⟩⟩
          have s4 := g1.trans (same_new hp4 (.tup (ts.map V.ref)))
          have HA : HandsAt (upd H' p4 (.tup (ts.map V.ref))) p4 ([x0, x1, x2, x3].map hd) := ⟨ts, upd_same, g3'.imp fun b xs z => same_new hp4 _ _ _ z⟩
          have h4 := h3.same s4
          generalize upd H' p4 (.tup (ts.map V.ref)) = H4 at s4 HA h4 ⊢
          have s04 := s3.trans s4
          refine ⟨_, rfl, _, rfl, _, rfl, sz 0 (by decide), fun p5 hp5 => ?_⟩
          refine use_recR rfl fun ps H6 hps s6 ⟨d6, e6⟩ => ?_
          refine ⟨sz 2 (by decide), fun p7 hp7 => ?_⟩
          refine use_recR rfl fun x8 H8 hx8 s8 ⟨d8, e8⟩ => ?_
          have s45 := same_new hp5 (.tup [])
          have s67 := same_new hp7 (.tup [V.int 0, V.int 0])
          have s48 : Same H4 H8 := (s45.trans s6).trans (s67.trans s8)
          have h8 := h4.same s48
          have wt := within_le ct
          have wl := within_le cl
          have pos : PosAt a.P H8 ps ⟨[x0, x1, x2, x3].map hd, t.toNat, l.toNat, []⟩ := by
            refine ⟨d6, p4, p5, ?_, HA.imp (Kp.of s48).tup, (s6.trans (s67.trans s8)) _ _ upd_same⟩
            have := (s67.trans s8) _ _ e6
            rw [this, Int.toNat_of_nonneg wt.1, Int.toNat_of_nonneg wl.1]
          have sta : StAt a H8 x8 ⟨[x0, x1, x2, x3].map hd, t.toNat, l.toNat, []⟩ 0 0 := ⟨d8, ps, p7, e8, pos, s8 _ _ upd_same⟩
          have s08 := s04.trans s48
          refine ⟨sz 1 (by decide), fun sl' hsl' => ?_⟩
          have nes : e ≠ sl' := ne_of_none h8.he hsl'
          refine ⟨_, rfl, e, de, _, rfl, same_new hsl' _ _ _ h8.he, (by decide : 0 < 3), ?_⟩
          refine ⟨sz 0 (by decide), fun pl' hpl' => ?_⟩
          have nep : e ≠ pl' := ne_of_none upd_same hpl'
          have nsp : sl' ≠ pl' := fun z => by rw [← z, upd_ne (Ne.symm nes), upd_same] at hpl'; cases hpl'
          refine ⟨_, rfl, e, de, _, rfl, (upd_ne nep).trans upd_same, (by decide : 1 < 3), ?_⟩
          refine use_ValuerR ([x0, x1, x2, x3].map hd) fun v' dx' d' H10 hv' hdx' hd' hdv' s10 v1 v2 v3 => ?_
          have nve : e ≠ v' := ne_of_none upd_same hv'
          have eb := s10 _ _ (upd_same (a := e))
          refine ⟨_, rfl, e, de, _, rfl, eb, (by decide : 2 < 3), ?_⟩
          have hpl8 : H8 pl' = none := by rw [upd_ne (Ne.symm nep), upd_ne (Ne.symm nsp)] at hpl'; exact hpl'
          have kk : Ex e H8 (upd H10 e (.ins a.E de (nE.zip ((((([V.ref sl, V.ref pl, V.ref v] : List V).set 0 (.ref sl')).set 1 (.ref pl')).set 2 (.ref v')))))) := (((((Ex.of (same_new hsl' _)).trans (Ex.upd _)).trans (Ex.of (same_new hpl' _))).trans (Ex.upd _)).trans (Ex.of s10)).trans (Ex.upd _)
          have hs' : (upd H10 e (.ins a.E de (nE.zip ((((([V.ref sl, V.ref pl, V.ref v] : List V).set 0 (.ref sl')).set 1 (.ref pl')).set 2 (.ref v')))))) sl' = some (.lst [.ref x8]) := by
            rw [upd_ne (Ne.symm nes)]
            refine s10 _ _ ?_
            rw [upd_ne (Ne.symm nes), upd_ne nsp, upd_ne (Ne.symm nes), upd_same]
          have hp' : (upd H10 e (.ins a.E de (nE.zip ((((([V.ref sl, V.ref pl, V.ref v] : List V).set 0 (.ref sl')).set 1 (.ref pl')).set 2 (.ref v')))))) pl' = some (.lst []) := by
            rw [upd_ne (Ne.symm nep)]
            refine s10 _ _ ?_
            rw [upd_ne (Ne.symm nep), upd_same]
          have val : ValAt a.V w ([x0, x1, x2, x3].map hd) (upd H10 e (.ins a.E de (nE.zip ((((([V.ref sl, V.ref pl, V.ref v] : List V).set 0 (.ref sl')).set 1 (.ref pl')).set 2 (.ref v')))))) v' := ⟨dx', d', [], by rw [upd_ne (Ne.symm nve)]; exact v1, by rw [upd_ne (fun z => by rw [z] at v2; rw [eb] at v2; cases v2)]; exact v2, KnOk.nil⟩
          have he' : (upd H10 e (.ins a.E de (nE.zip ((((([V.ref sl, V.ref pl, V.ref v] : List V).set 0 (.ref sl')).set 1 (.ref pl')).set 2 (.ref v')))))) e = some (.ins a.E de (nE.zip [.ref sl', .ref pl', .ref v'])) := upd_same
          generalize upd H10 e (.ins a.E de (nE.zip ((((([V.ref sl, V.ref pl, V.ref v] : List V).set 0 (.ref sl')).set 1 (.ref pl')).set 2 (.ref v'))))) = Hf at kk hs' hp' val he' ⊢
          have st8 : ∀ b o, H8 b = some o → b ≠ e → Hf b = some o := kk
          have n8 : x8 ≠ e := Ne.symm (ne_of_none (((s45.trans s6).trans s67) _ _ h4.he) hx8)
          have nps : ps ≠ e := Ne.symm (ne_of_none (s45 _ _ h4.he) hps)
          have fr : Fr a e H2 Hf := fun b o hb' no m => by
            have nbe : b ≠ e := fun z => m (.inl z)
            refine ⟨kk b o (s08 _ _ hb') nbe, fun y => ?_⟩
            rcases y with y | ⟨de', sl2, pl2, vv, y1, y2⟩
            · exact nbe y
            · rw [he'] at y1
              cases y1
              rcases y2 with y2 | y2
              · rw [y2, s08.free hsl'] at hb'; cases hb'
              · rw [y2, s08.free hpl8] at hb'; cases hb'
          have stf : StAt a Hf x8 ⟨[x0, x1, x2, x3].map hd, t.toNat, l.toNat, []⟩ 0 0 := by
            have ht : ∀ b xs, H8 b = some (.tup xs) → Hf b = some (.tup xs) := fun b xs z => kk b _ z fun y => by rw [y, h8.he] at z; cases z
            have e6' := (s67.trans s8) _ _ e6
            have s68 : Same _ H8 := s6.trans (s67.trans s8)
            refine ⟨d8, ps, p7, kk _ _ e8 n8, ⟨d6, p4, p5, ?_, (HA.imp (Kp.of s48).tup).imp ht, ht _ _ (s68 _ _ upd_same)⟩, ht _ _ (s8 _ _ upd_same)⟩
            have := kk _ _ e6' nps
            rw [this, Int.toNat_of_nonneg wt.1, Int.toNat_of_nonneg wl.1]
          have E9 : EndIs a w Hf e (dealt ⟨[x0, x1, x2, x3].map hd, t.toNat, l.toNat, []⟩) de sl' pl' v' [x8] := by
            refine ⟨he', hs', hp', nsp, rfl, fun i y hi => ?_, val, G⟩
            match i, hi with
            | 0, hi =>
              have hi' : x8 = y := Option.some.inj hi
              subst hi'
              exact stf
            | m + 1, hi => simp at hi
          exact ⟨sz 1 (by decide), fun p hp => q.use2 (l := []) st fr ⟨de, sl', pl', v', _, E9⟩ hp⟩
  · refine n.use (st.trans (if_pos ?_)) h (Kp.refl H) h.val
    rw [← Bool.and_assoc, c1, Bool.false_and]
end
end Lt
/-! # LtY1: the calls of the list -/
namespace Lt
open PySem PySem.Spec PyProof.Rows L2
abbrev NC : List V := [.int 2, .int 1, .int 0, .int 0, .int 0, .int 0, .int 0, .int 0, .int 0, .int 0, .int 1, .int 0, .int 2, .int 0]
abbrev RC : List V := [.int 4, .int 0, .int 0, .int 0, .int 0, .int 0, .int 0, .int 1, .int 0, .int 0, .int 0, .int 0, .int 0, .int 0]
theorem shape_at {p : Int} {n k : Nat} (h : PyVbbraf.shape p = some (n, k)) : atI NC p = some (.int (n : Int)) ∧ atI RC p = some (.int (k : Int)) := by
  unfold PyVbbraf.shape at h
  by_cases e0 : p = 0
  · subst e0
    cases h
    exact ⟨rfl, rfl⟩
  rw [if_neg e0] at h
  by_cases e1 : p = 1
  · subst e1
    cases h
    exact ⟨rfl, rfl⟩
  rw [if_neg e1] at h
  by_cases e2 : p = 2
  · subst e2
    cases h
    exact ⟨rfl, rfl⟩
  rw [if_neg e2] at h
  by_cases e3 : p = 3
  · subst e3
    cases h
    exact ⟨rfl, rfl⟩
  rw [if_neg e3] at h
  by_cases e4 : p = 4
  · subst e4
    cases h
    exact ⟨rfl, rfl⟩
  rw [if_neg e4] at h
  by_cases e5 : p = 5
  · subst e5
    cases h
    exact ⟨rfl, rfl⟩
  rw [if_neg e5] at h
  by_cases e6 : p = 6
  · subst e6
    cases h
    exact ⟨rfl, rfl⟩
  rw [if_neg e6] at h
  by_cases e7 : p = 7
  · subst e7
    cases h
    exact ⟨rfl, rfl⟩
  rw [if_neg e7] at h
  by_cases e8 : p = 8
  · subst e8
    cases h
    exact ⟨rfl, rfl⟩
  rw [if_neg e8] at h
  by_cases e9 : p = 9
  · subst e9
    cases h
    exact ⟨rfl, rfl⟩
  rw [if_neg e9] at h
  by_cases e10 : p = 10
  · subst e10
    cases h
    exact ⟨rfl, rfl⟩
  rw [if_neg e10] at h
  by_cases e11 : p = 11
  · subst e11
    cases h
    exact ⟨rfl, rfl⟩
  rw [if_neg e11] at h
  by_cases e12 : p = 12
  · subst e12
    cases h
    exact ⟨rfl, rfl⟩
  rw [if_neg e12] at h
  by_cases e13 : p = 13
  · subst e13
    cases h
    exact ⟨rfl, rfl⟩
  rw [if_neg e13] at h
  cases h
theorem shape_le {p : Int} {n k : Nat} (h : PyVbbraf.shape p = some (n, k)) : k ≤ 4 := by
  unfold PyVbbraf.shape at h
  by_cases e0 : p = 0
  · subst e0
    cases h
    decide
  rw [if_neg e0] at h
  by_cases e1 : p = 1
  · subst e1
    cases h
    decide
  rw [if_neg e1] at h
  by_cases e2 : p = 2
  · subst e2
    cases h
    decide
  rw [if_neg e2] at h
  by_cases e3 : p = 3
  · subst e3
    cases h
    decide
  rw [if_neg e3] at h
  by_cases e4 : p = 4
  · subst e4
    cases h
    decide
  rw [if_neg e4] at h
  by_cases e5 : p = 5
  · subst e5
    cases h
    decide
  rw [if_neg e5] at h
  by_cases e6 : p = 6
  · subst e6
    cases h
    decide
  rw [if_neg e6] at h
  by_cases e7 : p = 7
  · subst e7
    cases h
    decide
  rw [if_neg e7] at h
  by_cases e8 : p = 8
  · subst e8
    cases h
    decide
  rw [if_neg e8] at h
  by_cases e9 : p = 9
  · subst e9
    cases h
    decide
  rw [if_neg e9] at h
  by_cases e10 : p = 10
  · subst e10
    cases h
    decide
  rw [if_neg e10] at h
  by_cases e11 : p = 11
  · subst e11
    cases h
    decide
  rw [if_neg e11] at h
  by_cases e12 : p = 12
  · subst e12
    cases h
    decide
  rw [if_neg e12] at h
  by_cases e13 : p = 13
  · subst e13
    cases h
    decide
  rw [if_neg e13] at h
  cases h
/-- calls that have arguments, calls that have none -/
def WithA (c : List (List Int)) : Prop := (∃ t l x0 x1 x2 x3, c = [[0, t, l], x0, x1, x2, x3]) ∨ (∃ z, c = [[1, z]]) ∨ (∃ ns, c = [[7], ns]) ∨ (∃ z, c = [[10, z]]) ∨ (∃ d k, c = [[12, d, k]])
def NoA (c : List (List Int)) : Prop := c = [[2]] ∨ c = [[3]] ∨ c = [[4]] ∨ c = [[5]] ∨ c = [[6]] ∨ c = [[8]] ∨ c = [[9]] ∨ c = [[11]] ∨ c = [[13]]
theorem kinds {c : List (List Int)} (h : PyFlat.okCall PyVbbraf.shape c) : WithA c ∨ NoA c := by
  obtain ⟨p, nums, rows, rfl, h⟩ := h
  unfold PyVbbraf.shape at h
  by_cases e0 : p = 0
  · subst e0
    have h1 : _ = nums.length := congrArg Prod.fst (Option.some.inj h)
    have h2 : _ = rows.length := congrArg Prod.snd (Option.some.inj h)
    match nums, rows, h1, h2 with | [t, l], [x0, x1, x2, x3], _, _ => exact .inl (.inl ⟨t, l, x0, x1, x2, x3, rfl⟩)
  rw [if_neg e0] at h
  by_cases e1 : p = 1
  · subst e1
    have h1 : _ = nums.length := congrArg Prod.fst (Option.some.inj h)
    have h2 : _ = rows.length := congrArg Prod.snd (Option.some.inj h)
    match nums, rows, h1, h2 with | [z], [], _, _ => exact .inl (.inr (.inl ⟨z, rfl⟩))
  rw [if_neg e1] at h
  by_cases e2 : p = 2
  · subst e2
    have h1 : _ = nums.length := congrArg Prod.fst (Option.some.inj h)
    have h2 : _ = rows.length := congrArg Prod.snd (Option.some.inj h)
    match nums, rows, h1, h2 with | [], [], _, _ => exact .inr (.inl rfl)
  rw [if_neg e2] at h
  by_cases e3 : p = 3
  · subst e3
    have h1 : _ = nums.length := congrArg Prod.fst (Option.some.inj h)
    have h2 : _ = rows.length := congrArg Prod.snd (Option.some.inj h)
    match nums, rows, h1, h2 with | [], [], _, _ => exact .inr (.inr (.inl rfl))
  rw [if_neg e3] at h
  by_cases e4 : p = 4
  · subst e4
    have h1 : _ = nums.length := congrArg Prod.fst (Option.some.inj h)
    have h2 : _ = rows.length := congrArg Prod.snd (Option.some.inj h)
    match nums, rows, h1, h2 with | [], [], _, _ => exact .inr (.inr (.inr (.inl rfl)))
  rw [if_neg e4] at h
  by_cases e5 : p = 5
  · subst e5
    have h1 : _ = nums.length := congrArg Prod.fst (Option.some.inj h)
    have h2 : _ = rows.length := congrArg Prod.snd (Option.some.inj h)
    match nums, rows, h1, h2 with | [], [], _, _ => exact .inr (.inr (.inr (.inr (.inl rfl))))
  rw [if_neg e5] at h
  by_cases e6 : p = 6
  · subst e6
    have h1 : _ = nums.length := congrArg Prod.fst (Option.some.inj h)
    have h2 : _ = rows.length := congrArg Prod.snd (Option.some.inj h)
    match nums, rows, h1, h2 with | [], [], _, _ => exact .inr (.inr (.inr (.inr (.inr (.inl rfl)))))
  rw [if_neg e6] at h
  by_cases e7 : p = 7
  · subst e7
    have h1 : _ = nums.length := congrArg Prod.fst (Option.some.inj h)
    have h2 : _ = rows.length := congrArg Prod.snd (Option.some.inj h)
    match nums, rows, h1, h2 with | [], [ns], _, _ => exact .inl (.inr (.inr (.inl ⟨ns, rfl⟩)))
  rw [if_neg e7] at h
  by_cases e8 : p = 8
  · subst e8
    have h1 : _ = nums.length := congrArg Prod.fst (Option.some.inj h)
    have h2 : _ = rows.length := congrArg Prod.snd (Option.some.inj h)
    match nums, rows, h1, h2 with | [], [], _, _ => exact .inr (.inr (.inr (.inr (.inr (.inr (.inl rfl))))))
  rw [if_neg e8] at h
  by_cases e9 : p = 9
  · subst e9
    have h1 : _ = nums.length := congrArg Prod.fst (Option.some.inj h)
    have h2 : _ = rows.length := congrArg Prod.snd (Option.some.inj h)
    match nums, rows, h1, h2 with | [], [], _, _ => exact .inr (.inr (.inr (.inr (.inr (.inr (.inr (.inl rfl)))))))
  rw [if_neg e9] at h
  by_cases e10 : p = 10
  · subst e10
    have h1 : _ = nums.length := congrArg Prod.fst (Option.some.inj h)
    have h2 : _ = rows.length := congrArg Prod.snd (Option.some.inj h)
    match nums, rows, h1, h2 with | [z], [], _, _ => exact .inl (.inr (.inr (.inr (.inl ⟨z, rfl⟩))))
  rw [if_neg e10] at h
  by_cases e11 : p = 11
  · subst e11
    have h1 : _ = nums.length := congrArg Prod.fst (Option.some.inj h)
    have h2 : _ = rows.length := congrArg Prod.snd (Option.some.inj h)
    match nums, rows, h1, h2 with | [], [], _, _ => exact .inr (.inr (.inr (.inr (.inr (.inr (.inr (.inr (.inl rfl))))))))
  rw [if_neg e11] at h
  by_cases e12 : p = 12
  · subst e12
    have h1 : _ = nums.length := congrArg Prod.fst (Option.some.inj h)
    have h2 : _ = rows.length := congrArg Prod.snd (Option.some.inj h)
    match nums, rows, h1, h2 with | [d, k], [], _, _ => exact .inl (.inr (.inr (.inr (.inr ⟨d, k, rfl⟩))))
  rw [if_neg e12] at h
  by_cases e13 : p = 13
  · subst e13
    have h1 : _ = nums.length := congrArg Prod.fst (Option.some.inj h)
    have h2 : _ = rows.length := congrArg Prod.snd (Option.some.inj h)
    match nums, rows, h1, h2 with | [], [], _, _ => exact .inr (.inr (.inr (.inr (.inr (.inr (.inr (.inr (.inr (rfl)))))))))
  rw [if_neg e13] at h
  cases h
theorem cut_mid (l m r : List Int) : cutV ((l ++ (m ++ r)).map V.int) (some (l.length : Int)) (some ((l.length + m.length : Nat) : Int)) = m.map V.int := by
  unfold cutV
  rw [HT.sIx_nat, HT.sIx_nat, List.length_map, List.length_append, List.length_append, Nat.min_eq_left (by omega), Nat.min_eq_left (by omega), Nat.add_sub_cancel_left, ← List.map_drop, ← List.map_take, List.drop_left', List.take_left']
  · rfl
  · rfl
theorem cut_at {ns l m r : List Int} {i j : Int} (e : ns = l ++ (m ++ r)) (hi : i = (l.length : Nat)) (hj : j = ((l.length + m.length : Nat) : Int)) : cutV (ns.map V.int) (some i) (some j) = m.map V.int := by
  rw [e, hi, hj]
  exact cut_mid l m r
theorem at_mid' (l r : List Int) (x : Int) : atI ((l ++ x :: r).map V.int) (l.length : Int) = some (.int x) :=
  atI_nat (j := l.length) (by rw [List.getElem?_map, List.getElem?_append_right (Nat.le_refl _), Nat.sub_self]; rfl)
theorem at_at {ns l r : List Int} {x i : Int} (e : ns = l ++ x :: r) (hi : i = (l.length : Nat)) : atI (ns.map V.int) i = some (.int x) := by
  rw [e, hi]
  exact at_mid' l r x
end Lt
/-! # LtY2: calls_of -/
namespace Lt
open PySem PySem.Spec PyProof.Rows L2
open PyFlat (put put1 putRow putRows)
/-- a call at x; none of its objects is in N -/
structure CallIs (a : Ads) (H : Hp) (x : Addr) (c : List (List Int)) (N : Addr → Prop) : Prop where
  ex : ∃ dx nl rl rs p nums rows, c = (p :: nums) :: rows ∧ H x = some (.ins a.C dx (nC.zip [.int p, .ref nl, .ref rl])) ∧ H nl = some (.lst (nums.map V.int)) ∧ H rl = some (.lst (rs.map V.ref)) ∧ RowsAt H rs rows ∧ ¬ N x ∧ ¬ N nl ∧ ¬ N rl ∧ ∀ r ∈ rs, ¬ N r
theorem RowsAt.imp {H H' : Hp} {N : Addr → Prop} (k : ∀ b o, H b = some o → NoExt o → ¬ N b → H' b = some o) : ∀ {rs : List Addr} {rows : List (List Int)}, (∀ r ∈ rs, ¬ N r) → RowsAt H rs rows → RowsAt H' rs rows
  | [], [], _, _ => trivial
  | r :: _, _ :: _, n, h => ⟨k _ _ h.1 trivial (n r List.mem_cons_self), RowsAt.imp k (fun r hr => n r (List.mem_cons_of_mem _ hr)) h.2⟩
  | [], _ :: _, _, h => h.elim
  | _ :: _, [], _, h => h.elim
theorem CallIs.imp {a : Ads} {H H' : Hp} {x : Addr} {c : List (List Int)} {N : Addr → Prop} (k : ∀ b o, H b = some o → NoExt o → ¬ N b → H' b = some o) (h : CallIs a H x c N) : CallIs a H' x c N := by
  obtain ⟨dx, nl, rl, rs, p, nums, rows, e, h1, h2, h3, h4, n1, n2, n3, n4⟩ := h.ex
  exact ⟨dx, nl, rl, rs, p, nums, rows, e, k _ _ h1 trivial n1, k _ _ h2 trivial n2, k _ _ h3 trivial n3, h4.imp k n4, n1, n2, n3, n4⟩
theorem CallIs.same {a : Ads} {H H' : Hp} {x : Addr} {c : List (List Int)} {N : Addr → Prop} (s : Same H H') (h : CallIs a H x c N) : CallIs a H' x c N := h.imp fun b o e _ _ => s b o e
theorem RowsAt.snoc {H : Hp} {r : Addr} {x : List Int} (hr : H r = some (.lst (x.map V.int))) : ∀ {rs : List Addr} {rows : List (List Int)}, RowsAt H rs rows → RowsAt H (rs ++ [r]) (rows ++ [x])
  | [], [], _ => ⟨hr, trivial⟩
  | _ :: _, _ :: _, h => ⟨h.1, h.2.snoc hr⟩
  | [], _ :: _, h => h.elim
  | _ :: _, [], h => h.elim
def CallsAt (a : Ads) (H : Hp) (xs : List Addr) (cs : List (List (List Int))) (N : Addr → Prop) : Prop := xs.length = cs.length ∧ ∀ (i : Nat) (x : Addr), xs[i]? = some x → ∃ c, cs[i]? = some c ∧ CallIs a H x c N
theorem CallsAt.imp {a : Ads} {H H' : Hp} {xs : List Addr} {cs : List (List (List Int))} {N : Addr → Prop} (k : ∀ b o, H b = some o → NoExt o → ¬ N b → H' b = some o) (h : CallsAt a H xs cs N) : CallsAt a H' xs cs N :=
  ⟨h.1, fun i x e => let ⟨c, e1, e2⟩ := h.2 i x e; ⟨c, e1, e2.imp k⟩⟩
theorem CallsAt.snoc {a : Ads} {H : Hp} {xs : List Addr} {cs : List (List (List Int))} {N : Addr → Prop} {x : Addr} {c : List (List Int)} (h : CallsAt a H xs cs N) (hx : CallIs a H x c N) : CallsAt a H (xs ++ [x]) (cs ++ [c]) N := by
  refine ⟨by rw [List.length_append, List.length_append, h.1]; rfl, fun i y e => ?_⟩
  by_cases hlt : i < xs.length
  · rw [List.getElem?_append_left hlt] at e
    obtain ⟨d, e1, e2⟩ := h.2 i y e
    exact ⟨d, by rw [List.getElem?_append_left (by rw [← h.1]; exact hlt)]; exact e1, e2⟩
  · have := (List.getElem?_eq_some_iff.mp e).1
    rw [List.length_append, List.length_singleton] at this
    have e3 : i = xs.length := by omega
    subst e3
    rw [List.getElem?_append_right (Nat.le_refl _), Nat.sub_self] at e
    have e4 : x = y := Option.some.inj e
    subst e4
    exact ⟨c, by rw [h.1, List.getElem?_append_right (Nat.le_refl _), Nat.sub_self]; rfl, hx⟩
theorem put_app : ∀ cs ds : List (List (List Int)), put (cs ++ ds) = put cs ++ put ds
  | [], _ => rfl
  | c :: cs, ds => by
    show put1 c ++ put (cs ++ ds) = (put1 c ++ put cs) ++ put ds
    rw [put_app cs ds, List.append_assoc]
theorem putRows_app : ∀ xs ys : List (List Int), putRows (xs ++ ys) = putRows xs ++ putRows ys
  | [], _ => rfl
  | x :: xs, ys => by
    show putRow x ++ putRows (xs ++ ys) = (putRow x ++ putRows xs) ++ putRows ys
    rw [putRows_app xs ys, List.append_assoc]
section
variable {P : Program} {w : World} {K : PySem.W.Frag} {mg : Str → Option Value} {base : Heap} {a : Ads}
def sp_calls_of (a : Ads) (K : PySem.W.Frag) : Sp := fun vs H Q _ => vs.length = 1 ∧ ∃ (cb : Addr) (raw : List (List (List Int))), vs = [.ref cb] ∧ SqL K H cb ((put raw).map V.int) ∧ (∀ c ∈ raw, PyFlat.okCall PyVbbraf.shape c) ∧ raw.length ≤ 1000 ∧
  ∀ l H' xs, Same H H' → H l = none → H' l = some (.lst (xs.map V.ref)) → CallsAt a H' xs raw (fun b => H b ≠ none ∨ b = l) → Q (.ref l) H'
theorem ok_calls_of (D : Dn K mg "calls_of" s_calls_of) (T : Txt K mg a) (K_C : MkA P w K mg base 1 "Call" a.C (spRec a.C nC)) : FnA P w K mg base CX0 3 "calls_of" (sp_calls_of a K) := by
  refine D.ok sc_calls_of (fun _ _ _ _ _ _ us hl => match us, hl with | [_], _ => rfl) (fun _ _ _ _ h => h.1) fun f cdv A outer s H vs Q E hr h => ⟨_, (pss_cons (ps_set (i := 1) sc_calls_of.nd rfl (Or.inl rfl) (pe_lst pa_nil))
      (pss_cons (ps_set (i := 2) sc_calls_of.nd rfl (Or.inl rfl) pe_int)
      (pss_cons (ps_while PassesOwn.never (pt_cmpR op_lt (pv 2) (pe_callB (cl_len (K := K)) (by rfl) T.m_len PySem.boot_len (pa_cons (pv 0) pa_nil)) (nomark _)) (pss_cons (ps_set (i := 3) sc_calls_of.nd rfl (Or.inl rfl) (pe_ix (ix_listK (K := K)) (pv 0) (pv 2) (fun _ _ => rfl)))
      (pss_cons (ps_set (i := 4) sc_calls_of.nd rfl (Or.inl rfl) (pe_op op_add (pe_op op_add (pv 2) pe_int) (pe_ix (ix_tupK (K := K)) (pgt T.g_NUMBER_COUNTS) (pv 3) (fun _ _ => rfl))))
      (pss_cons (ps_set (i := 5) sc_calls_of.nd rfl (Or.inl rfl) (pe_slice sl_list (pv 0) (po_some (pe_op op_add (pv 2) pe_int)) (po_some (pv 4))))
      (pss_cons (ps_set (i := 6) sc_calls_of.nd rfl (Or.inl rfl) (pe_lst pa_nil))
      (pss_cons (ps_for PassesOwn.never rfl (pi_range1 (by rfl) T.m_range (pa_cons (pe_ix (ix_tupK (K := K)) (pgt T.g_ROW_COUNTS) (pv 3) (fun _ _ => rfl)) pa_nil)) (pg_name (i := 7) sc_calls_of.nd rfl (Or.inl rfl)) (pss_cons (ps_expr (pe_bm PySem.F.plainAttrs_list PySem.F.slot_list_append PySem.F.type_list_append mt_append (pv 6) (pa_cons (pe_slice sl_list (pv 0) (po_some (pe_op op_add (pv 4) pe_int)) (po_some (pe_op op_add (pe_op op_add (pv 4) pe_int) (pe_ix (ix_listK (K := K)) (pv 0) (pv 4) (fun _ _ => rfl))))) pa_nil)))
      (pss_one (ps_set (i := 4) sc_calls_of.nd rfl (Or.inl rfl) (pe_op op_add (pe_op op_add (pv 4) pe_int) (pe_ix (ix_listK (K := K)) (pv 0) (pv 4) (fun _ _ => rfl)))))))
      (pss_cons (ps_expr (pe_bm PySem.F.plainAttrs_list PySem.F.slot_list_append PySem.F.type_list_append mt_append (pv 1) (pa_cons (pmk K_C hr (by decide) (pa_cons (pv 3) (pa_cons (pv 5) (pa_cons (pv 6) pa_nil)))) pa_nil)))
      (pss_one (ps_set (i := 2) sc_calls_of.nd rfl (Or.inl rfl) (pv 4))))))))))
      (pss_one (ps_ret (pv 1)))))), ?_⟩
  obtain ⟨_, cb, raw, rfl, hcb, hok, hlen, q⟩ := h
  refine ⟨sz 0 (by decide), fun l hl => ?_⟩
  refine ⟨fun m σ H' => ∃ dcs rcs xs z3 z4 z5 z6 z7, m = rcs.length ∧ raw = dcs ++ rcs ∧ σ = [some (.ref cb), some (.ref l), some (.int ((put dcs).length : Nat)), z3, z4, z5, z6, z7] ∧ Same H H' ∧ H' l = some (.lst (xs.map V.ref)) ∧ CallsAt a H' xs dcs (fun b => H b ≠ none ∨ b = l),
    ⟨_, [], raw, [], none, none, none, none, none, rfl, rfl, rfl, same_new hl _, upd_same, rfl, fun i x e => by simp at e⟩, ?_⟩
  rintro m σ H' ⟨dcs, rcs, xs, z3, z4, z5, z6, z7, rfl, er, rfl, s1, l1, c1⟩
  have hns : SqL K H' cb ((put raw).map V.int) := (Kp.of s1).sqL hcb
  refine ⟨_, rfl, _, rfl, cb, _, rfl, .inl hns, _, _, rfl, rfl, _, rfl, ?_⟩
  have elen : ((put raw).map V.int).length = (put dcs).length + (put rcs).length := by rw [List.length_map, er, put_app, List.length_append]
  rw [elen]
  cases rcs with
  | nil =>
    refine if_f (decide_eq_false ?_) ⟨_, rfl, ?_⟩
    · show ¬ (((put dcs).length : Nat) : Int) < (((put dcs).length + 0 : Nat) : Int)
      omega
    · rw [List.append_nil] at er
      subst er
      exact q l H' xs s1 hl l1 c1
  | cons c rcs =>
    obtain ⟨p, nums, rows, rfl, hsh⟩ := hok c (by rw [er]; simp)
    obtain ⟨t1, t2⟩ := shape_at hsh
    refine if_t (decide_eq_true ?_) ?_
    · show (((put dcs).length : Nat) : Int) < (((put dcs).length + (p :: (nums ++ putRows rows) ++ put rcs).length : Nat) : Int)
      rw [List.length_append, List.length_cons]
      omega
    refine ⟨fun σ' H'' => ∃ m', m' < (((p :: nums) :: rows) :: rcs).length ∧ ∃ dcs rcs xs z3 z4 z5 z6 z7, m' = rcs.length ∧ raw = dcs ++ rcs ∧ σ' = [some (.ref cb), some (.ref l), some (.int ((put dcs).length : Nat)), z3, z4, z5, z6, z7] ∧ Same H H'' ∧ H'' l = some (.lst (xs.map V.ref)) ∧ CallsAt a H'' xs dcs (fun b => H b ≠ none ∨ b = l), fun _ _ h => h, ?_⟩
    have ens : put raw = put dcs ++ (p :: (nums ++ (putRows rows ++ put rcs))) := by
      rw [er, put_app]
      show put dcs ++ ((p :: (nums ++ putRows rows)) ++ put rcs) = _
      rw [List.cons_append, List.append_assoc]
    have hat : atI ((put raw).map V.int) ((put dcs).length : Nat) = some (.int p) := by rw [ens]; exact at_mid' _ _ _
    refine ⟨_, rfl, _, rfl, cb, _, _, _, rfl, rfl, hns, hat, ?_⟩
    refine ⟨_, rfl, _, _, rfl, rfl, fun bn hbn => ⟨_, rfl, bn, _, _, _, rfl, rfl, hbn _, t1, _, _, rfl, rfl, ?_⟩⟩
    have hk4 := shape_le hsh
    obtain ⟨L, hL⟩ : ∃ L : Nat → List Int, ∀ j, L j = put dcs ++ (p :: (nums ++ putRows (rows.take j))) := ⟨_, fun _ => rfl⟩
    have L0 : (L 0).length = (put dcs).length + 1 + nums.length := by
      rw [hL]
      show (put dcs ++ (p :: (nums ++ []))).length = _
      rw [List.append_nil, List.length_append, List.length_cons]
      omega
    have Lmore : ∀ j x, rows[j]? = some x → L (j + 1) = L j ++ ((x.length : Int) :: x) := fun j x hx => by
      rw [hL, hL, take_more hx, putRows_app]
      show put dcs ++ (p :: (nums ++ (putRows (rows.take j) ++ (((x.length : Int) :: x) ++ [])))) = _
      rw [List.append_nil, List.append_assoc, List.cons_append, List.append_assoc]
    have Lns : ∀ j x, rows[j]? = some x → put raw = L j ++ ((x.length : Int) :: (x ++ (putRows (rows.drop (j + 1)) ++ put rcs))) := fun j x hx => by
      obtain ⟨hlt, hx'⟩ := List.getElem?_eq_some_iff.mp hx
      have e1 : rows = rows.take j ++ x :: rows.drop (j + 1) := by
        have := List.take_append_drop j rows
        rw [List.drop_eq_getElem_cons hlt, hx'] at this
        exact this.symm
      have e2 : putRows rows = putRows (rows.take j) ++ ((x.length : Int) :: (x ++ putRows (rows.drop (j + 1)))) := by
        have := congrArg putRows e1
        rw [putRows_app] at this
        exact this
      rw [ens, e2, hL]
      simp only [List.append_assoc, List.cons_append]
    have e4 : ((put dcs).length : Int) + 1 + (nums.length : Int) = (((L 0).length : Nat) : Int) := by rw [L0]; omega
    dsimp only
    rw [e4]
    refine ⟨_, rfl, _, rfl, _, _, rfl, rfl, _, rfl, _, rfl, _, rfl, cb, _, rfl, hns, fun nl hnl => ?_⟩
    rw [cut_at (ns := put raw) (l := put dcs ++ [p]) (m := nums) (r := putRows rows ++ put rcs) (by rw [ens]; simp) (by rw [List.length_append]; rfl) (by rw [L0, List.length_append]; rfl)]
    have sA := s1.trans (same_new hnl (.lst (nums.map V.int)))
    have nll : nl ≠ l := fun z => by rw [z, l1] at hnl; cases hnl
    have nl0 := s1.free hnl
    have NL : (upd H' nl (.lst (nums.map V.int))) nl = some (.lst (nums.map V.int)) := upd_same
    have lA := same_new hnl (.lst (nums.map V.int)) _ _ l1
    have cA : CallsAt a (upd H' nl (.lst (nums.map V.int))) xs dcs (fun b => H b ≠ none ∨ b = l) := c1.imp fun b o z _ _ => same_new hnl _ _ _ z
    generalize upd H' nl (.lst (nums.map V.int)) = HA at sA NL lA cA ⊢
    refine ⟨sz 0 (by decide), fun rl hrl => ?_⟩
    have nrl : rl ≠ l := fun z => by rw [z, lA] at hrl; cases hrl
    have rl0 := sA.free hrl
    refine fun bn hbn => ⟨_, rfl, bn, _, _, _, rfl, rfl, hbn _, t2, _, rfl, by omega, by omega, for_range (lo := 0) (n := rows.length) (fun j σ H' => ∃ rs z7, σ = [some (.ref cb), some (.ref l), some (.int ((put dcs).length : Nat)), some (.int p), some (.int ((L j).length : Nat)), some (.ref nl), some (.ref rl), z7] ∧ Same HA H' ∧ H' rl = some (.lst (rs.map V.ref)) ∧ RowsAt H' rs (rows.take j) ∧ rs.length = j ∧ ∀ r ∈ rs, H r = none ∧ r ≠ l ∧ r ≠ rl)
      ⟨[], z7, rfl, same_new hrl _, upd_same, trivial, rfl, by simp⟩ (fun j σ H2 hj g => ?_) (fun σ H2 g => ?_)⟩
    · obtain ⟨rs, z7, rfl, g1, g2, g3, g4, g5⟩ := g
      obtain ⟨x, hx⟩ : ∃ x, rows[j]? = some x := ⟨_, List.getElem?_eq_getElem hj⟩
      have hns2 : SqL K H2 cb ((put raw).map V.int) := (Kp.of (sA.trans g1)).sqL hcb
      have eL := Lns j x hx
      have at2 : atI ((put raw).map V.int) ((L j).length : Nat) = some (.int (x.length : Int)) := at_at eL rfl
      refine ⟨_, rfl, .inl ⟨rfl, _, SqL.of g2⟩, _, rfl, _, rfl, _, _, rfl, rfl, _, rfl, _, rfl, _, _, rfl, rfl, _, rfl, _, rfl, cb, _, _, _, rfl, rfl, hns2, at2, _, _, rfl, rfl, _, rfl, cb, _, rfl, hns2, fun r hr => ?_⟩
      rw [cut_at (ns := put raw) (l := L j ++ [(x.length : Int)]) (m := x) (r := putRows (rows.drop (j + 1)) ++ put rcs) (by rw [eL]; simp) (by rw [List.length_append]; rfl) (by rw [List.length_append]; show ((L j).length : Int) + 1 + (x.length : Int) = (((L j).length + 1 + x.length : Nat) : Int); omega)]
      have rnl : r ≠ rl := fun z => by rw [z, g2] at hr; cases hr
      have l2 := (g1 _ _ lA)
      have rl' : r ≠ l := fun z => by rw [z, l2] at hr; cases hr
      have r0 := (sA.trans g1).free hr
      have G2 := same_new hr (.lst (x.map V.int)) _ _ g2
      have sB : Same HA (upd (upd H2 r (.lst (x.map V.int))) rl (.lst (rs.map V.ref ++ [V.ref r]))) := same_upd hrl (g1.trans (same_new hr _)) _
      have hns3 : SqL K (upd (upd H2 r (.lst (x.map V.int))) rl (.lst (rs.map V.ref ++ [V.ref r]))) cb ((put raw).map V.int) := (Kp.of (sA.trans sB)).sqL hcb
      refine ⟨rl, _, _, rfl, rfl, G2, ?_, _, rfl, _, _, rfl, rfl, _, rfl, _, rfl, cb, _, _, _, rfl, rfl, hns3, at2, _, _, rfl, rfl, rs ++ [r], some (.int (0 + (j : Int))), ?_, sB, ?_, ?_, ?_, ?_⟩
      · rw [List.length_map]
        exact szl _ (by omega)
      · have : ((L j).length : Int) + 1 + (x.length : Int) = (((L (j + 1)).length : Nat) : Int) := by
          rw [Lmore j x hx, List.length_append, List.length_cons]
          omega
        rw [← this]
        rfl
      · rw [upd_same, List.map_append]
        rfl
      · rw [take_more hx]
        refine RowsAt.snoc ?_ (RowsAt.imp (N := fun b => b = rl) (fun b o z _ nb => ?_) (fun r hr => (g5 r hr).2.2) g3)
        · rw [upd_ne rnl, upd_same]
        · rw [upd_ne nb]
          exact same_new hr _ _ _ z
      · rw [List.length_append, g4]
        rfl
      · intro r' hr'
        rcases List.mem_append.mp hr' with hr' | hr'
        · exact g5 r' hr'
        · rw [List.mem_singleton.mp hr']
          exact ⟨r0, rl', rnl⟩
    · obtain ⟨rs, z7, rfl, g1, g2, g3, g4, g5⟩ := g
      rw [List.take_length] at g3
      have l2 := g1 _ _ lA
      refine ⟨_, rfl, .inl ⟨rfl, _, SqL.of l2⟩, _, rfl, _, rfl, _, rfl, ?_⟩
      refine use_recR rfl fun y H4 hy s4 ⟨dy, ey⟩ => ?_
      have l4 := s4 _ _ l2
      have yl : y ≠ l := fun z => by rw [z, l2] at hy; cases hy
      have sA4 := g1.trans s4
      have y0 := (sA.trans g1).free hy
      have ci : CallIs a H4 y ((p :: nums) :: rows) (fun b => H b ≠ none ∨ b = l) := ⟨dy, nl, rl, rs, p, nums, rows, rfl, ey, sA4 _ _ NL, s4 _ _ g2, g3.same s4, fun z => z.elim (fun z => z y0) yl, fun z => z.elim (fun z => z nl0) nll, fun z => z.elim (fun z => z rl0) nrl, fun r hr z => z.elim (fun z => z (g5 r hr).1) (g5 r hr).2.1⟩
      have c4 : CallsAt a H4 (xs ++ [y]) (dcs ++ [(p :: nums) :: rows]) (fun b => H b ≠ none ∨ b = l) := (cA.imp fun b o z _ _ => sA4 _ _ z).snoc ci
      refine ⟨l, _, _, rfl, rfl, l4, ?_, _, rfl, rcs.length, by simp, dcs ++ [(p :: nums) :: rows], rcs, xs ++ [y], some (.int p), some (.int ((L rows.length).length : Nat)), some (.ref nl), some (.ref rl), z7, rfl, by rw [er]; simp, ?_, same_upd hl (sA.trans sA4) _, ?_, c4.imp fun b o z _ nb => by rw [upd_ne fun e => nb (.inr e)]; exact z⟩
      · rw [List.length_map, c1.1]
        have : raw.length = dcs.length + (rcs.length + 1) := by rw [er, List.length_append]; rfl
        exact szl _ (by omega)
      · have : put (dcs ++ [(p :: nums) :: rows]) = L rows.length := by
          rw [put_app, hL, List.take_length]
          show put dcs ++ (((p :: nums) ++ putRows rows) ++ []) = _
          rw [List.append_nil, List.cons_append]
        rw [this]
        rfl
      · rw [upd_same, List.map_append]
        rfl
end
end Lt
/-! # LtY3: the answer of a call -/
namespace Lt
open PySem PySem.Spec PyProof.Rows L2
open Vbbraf (State step stepRows)
section
variable {P : Program} {w : World} {K : PySem.W.Frag} {mg : Str → Option Value} {base : Heap} {a : Ads}
def sp_awa (a : Ads) (w : World) : Sp := fun vs H Q E => vs.length = 2 ∧ ∃ e s de sl pl v as x c N, vs = [.ref e, .ref x] ∧ EndIs a w H e s de sl pl v as ∧ CallIs a H x c N ∧ WithA c ∧ Yes a w H e (stepRows s c) Q ∧ No a w H e s (stepRows s c) E
theorem ok_awa (D : Dn K mg "answer_with_arguments" s_answer_with_arguments) (T : Txt K mg a) (F_deal : FnA P w K mg base (L2.CX P w) 6 "deal" (sp_deal a w K)) (F_play : FnA P w K mg base (L2.CX P w) 6 "play" (sp_play a w)) (F_account : FnA P w K mg base (L2.CX P w) 60 "account" (sp_caccount a w K))
    (F_alike : FnA P w K mg base (L2.CX P w) 5 "alike" (sp_alike a w)) (F_can : FnA P w K mg base (L2.CX P w) 58 "can" (sp_can a w)) : FnA P w K mg base (L2.CX P w) 61 "answer_with_arguments" (sp_awa a w) := by
  refine D.okX sc_answer_with_arguments (fun _ _ _ _ _ _ us hl => match us, hl with | [_, _], _ => rfl) (fun _ _ _ _ h => h.1) fun f cdv A outer s H vs Q E hr h => ⟨_, (pss_cons (ps_if (pt_cmpR op_eq (pe_f 0 T.kC (pv 1)) pe_int (nomark _)) (pss_one (ps_ret (pcx F_deal hr (by decide) (takes_of rfl rfl rfl rfl) (pa_cons (pv 0) (pa_cons (pe_ix (ix_listK (K := K)) (pe_f 1 T.kC (pv 1)) pe_int (fun _ _ => rfl)) (pa_cons (pe_ix (ix_listK (K := K)) (pe_f 1 T.kC (pv 1)) pe_int (fun _ _ => rfl)) (pa_cons (pe_f 2 T.kC (pv 1)) pa_nil))))))) pss_nil)
      (pss_cons (ps_if (pt_cmpR op_eq (pe_f 0 T.kC (pv 1)) pe_int (nomark _)) (pss_one (ps_ret (pcx F_play hr (by decide) (takes_of rfl rfl rfl rfl) (pa_cons (pv 0) (pa_cons (pe_ix (ix_listK (K := K)) (pe_f 1 T.kC (pv 1)) pe_int (fun _ _ => rfl)) pa_nil))))) pss_nil)
      (pss_cons (ps_if (pt_cmpR op_eq (pe_f 0 T.kC (pv 1)) pe_int (nomark _)) (pss_one (ps_ret (pcx F_account hr (by decide) (takes_of rfl rfl rfl rfl) (pa_cons (pv 0) (pa_cons (pe_ix (ix_listK (K := K)) (pe_f 2 T.kC (pv 1)) pe_int (fun _ _ => rfl)) pa_nil))))) pss_nil)
      (pss_cons (ps_if (pt_cmpR op_eq (pe_f 0 T.kC (pv 1)) pe_int (nomark _)) (pss_one (ps_ret (pcx F_alike hr (by decide) (takes_of rfl rfl rfl rfl) (pa_cons (pv 0) (pa_cons (pe_ix (ix_listK (K := K)) (pe_f 1 T.kC (pv 1)) pe_int (fun _ _ => rfl)) pa_nil))))) pss_nil)
      (pss_one (ps_ret (pcx F_can hr (by decide) (takes_of rfl rfl rfl rfl) (pa_cons (pv 0) (pa_cons (pe_ix (ix_listK (K := K)) (pe_f 1 T.kC (pv 1)) pe_int (fun _ _ => rfl)) (pa_cons (pe_ix (ix_listK (K := K)) (pe_f 1 T.kC (pv 1)) pe_int (fun _ _ => rfl)) pa_nil)))))))))), ?_⟩
  obtain ⟨_, e0, s, de, sl, pl, v, as, x, c, N, rfl, h, hc, hw, q, n⟩ := h
  obtain ⟨dx, nl, rl, rs, p, nums, rows, e, h1, h2, h3, h4, _⟩ := hc.ex
  rcases hw with ⟨t, l, x0, x1, x2, x3, rfl⟩ | ⟨z, rfl⟩ | ⟨ns, rfl⟩ | ⟨z, rfl⟩ | ⟨d, k, rfl⟩
  · cases e
    refine ⟨_, rfl, x, dx, _, _, rfl, h1, rfl, rfl, _, rfl, ?_⟩
    rw [dint]
    refine if_t (by decide) ?_
    obtain ⟨r0, r1, r2, r3, rfl⟩ : ∃ r0 r1 r2 r3, rs = [r0, r1, r2, r3] := by
      match rs, h4 with
      | [r0, r1, r2, r3], _ => exact ⟨r0, r1, r2, r3, rfl⟩
    exact ⟨_, rfl, _, rfl, x, dx, _, _, rfl, h1, rfl, nl, _, 0, _, rfl, rfl, SqL.of h2, rfl, _, rfl, x, dx, _, _, rfl, h1, rfl, nl, _, 1, _, rfl, rfl, SqL.of h2, rfl, _, rfl, x, dx, _, _, rfl, h1, rfl, rfl, e0, s, de, sl, pl, v, as, rl, r0, r1, r2, r3, t, l, x0, x1, x2, x3, rfl, h, SqL.of h3, h4, q, n⟩
  · cases e
    refine ⟨_, rfl, x, dx, _, _, rfl, h1, rfl, rfl, _, rfl, ?_⟩
    rw [dint]
    refine if_f (by decide) ?_
    refine ⟨_, rfl, x, dx, _, _, rfl, h1, rfl, rfl, _, rfl, ?_⟩
    rw [dint]
    refine if_t (by decide) ?_
    exact ⟨_, rfl, _, rfl, x, dx, _, _, rfl, h1, rfl, nl, _, 0, _, rfl, rfl, SqL.of h2, rfl, rfl, e0, s, de, sl, pl, v, as, z, rfl, h, q, n⟩
  · cases e
    refine ⟨_, rfl, x, dx, _, _, rfl, h1, rfl, rfl, _, rfl, ?_⟩
    rw [dint]
    refine if_f (by decide) ?_
    refine ⟨_, rfl, x, dx, _, _, rfl, h1, rfl, rfl, _, rfl, ?_⟩
    rw [dint]
    refine if_f (by decide) ?_
    refine ⟨_, rfl, x, dx, _, _, rfl, h1, rfl, rfl, _, rfl, ?_⟩
    rw [dint]
    refine if_t (by decide) ?_
    obtain ⟨r0, rfl⟩ : ∃ r0, rs = [r0] := by
      match rs, h4 with
      | [r0], _ => exact ⟨r0, rfl⟩
    exact ⟨_, rfl, _, rfl, x, dx, _, _, rfl, h1, rfl, rl, _, 0, _, rfl, rfl, SqL.of h3, rfl, rfl, e0, s, de, sl, pl, v, as, r0, ns, rfl, h, SqL.of h4.1, q, n⟩
  · cases e
    refine ⟨_, rfl, x, dx, _, _, rfl, h1, rfl, rfl, _, rfl, ?_⟩
    rw [dint]
    refine if_f (by decide) ?_
    refine ⟨_, rfl, x, dx, _, _, rfl, h1, rfl, rfl, _, rfl, ?_⟩
    rw [dint]
    refine if_f (by decide) ?_
    refine ⟨_, rfl, x, dx, _, _, rfl, h1, rfl, rfl, _, rfl, ?_⟩
    rw [dint]
    refine if_f (by decide) ?_
    refine ⟨_, rfl, x, dx, _, _, rfl, h1, rfl, rfl, _, rfl, ?_⟩
    rw [dint]
    refine if_t (by decide) ?_
    exact ⟨_, rfl, _, rfl, x, dx, _, _, rfl, h1, rfl, nl, _, 0, _, rfl, rfl, SqL.of h2, rfl, rfl, e0, s, de, sl, pl, v, as, z, rfl, h, q, n⟩
  · cases e
    refine ⟨_, rfl, x, dx, _, _, rfl, h1, rfl, rfl, _, rfl, ?_⟩
    rw [dint]
    refine if_f (by decide) ?_
    refine ⟨_, rfl, x, dx, _, _, rfl, h1, rfl, rfl, _, rfl, ?_⟩
    rw [dint]
    refine if_f (by decide) ?_
    refine ⟨_, rfl, x, dx, _, _, rfl, h1, rfl, rfl, _, rfl, ?_⟩
    rw [dint]
    refine if_f (by decide) ?_
    refine ⟨_, rfl, x, dx, _, _, rfl, h1, rfl, rfl, _, rfl, ?_⟩
    rw [dint]
    refine if_f (by decide) ?_
    exact ⟨_, rfl, _, rfl, x, dx, _, _, rfl, h1, rfl, nl, _, 0, _, rfl, rfl, SqL.of h2, rfl, _, rfl, x, dx, _, _, rfl, h1, rfl, nl, _, 1, _, rfl, rfl, SqL.of h2, rfl, rfl, e0, s, de, sl, pl, v, as, d, k, rfl, h, q, n⟩
def sp_awo (a : Ads) (w : World) : Sp := fun vs H Q E => vs.length = 2 ∧ ∃ e s de sl pl v as x c N, vs = [.ref e, .ref x] ∧ EndIs a w H e s de sl pl v as ∧ CallIs a H x c N ∧ NoA c ∧ Yes a w H e (stepRows s c) Q ∧ No a w H e s (stepRows s c) E
theorem ok_awo (D : Dn K mg "answer_without_arguments" s_answer_without_arguments) (T : Txt K mg a) (F_back : FnA P w K mg base (L2.CX P w) 4 "back" (sp_c1 a w .back)) (F_turn : FnA P w K mg base CX0 4 "turn" (sp_c0 a w .turn)) (F_value : FnA P w K mg base CX0 58 "value" (sp_c0 a w .value))
    (F_cards_with_values : FnA P w K mg base CX0 56 "cards_with_values" (sp_c0 a w .cards)) (F_line : FnA P w K mg base CX0 61 "line" (sp_c0 a w .line)) (F_past : FnA P w K mg base CX0 60 "past" (sp_c0 a w .past)) (F_table : FnA P w K mg base (L2.CX P w) 58 "table" (sp_c1 a w .table))
    (F_squeezed : FnA P w K mg base CX0 3 "squeezed" (sp_c0 a w .squeezed)) (F_told : FnA P w K mg base CX0 2 "told" (sp_c0 a w .told)) : FnA P w K mg base (L2.CX P w) 62 "answer_without_arguments" (sp_awo a w) := by
  refine D.okX sc_answer_without_arguments (fun _ _ _ _ _ _ us hl => match us, hl with | [_, _], _ => rfl) (fun _ _ _ _ h => h.1) fun f cdv A outer s H vs Q E hr h => ⟨_, (pss_cons (ps_if (pt_cmpR op_eq (pe_f 0 T.kC (pv 1)) pe_int (nomark _)) (pss_one (ps_ret (pcx F_back hr (by decide) (takes_of rfl rfl rfl rfl) (pa_cons (pv 0) pa_nil)))) pss_nil)
      (pss_cons (ps_if (pt_cmpR op_eq (pe_f 0 T.kC (pv 1)) pe_int (nomark _)) (pss_one (ps_ret (pc F_turn hr (by decide) (pa_cons (pv 0) pa_nil)))) pss_nil)
      (pss_cons (ps_if (pt_cmpR op_eq (pe_f 0 T.kC (pv 1)) pe_int (nomark _)) (pss_one (ps_ret (pc F_value hr (by decide) (pa_cons (pv 0) pa_nil)))) pss_nil)
      (pss_cons (ps_if (pt_cmpR op_eq (pe_f 0 T.kC (pv 1)) pe_int (nomark _)) (pss_one (ps_ret (pc F_cards_with_values hr (by decide) (pa_cons (pv 0) pa_nil)))) pss_nil)
      (pss_cons (ps_if (pt_cmpR op_eq (pe_f 0 T.kC (pv 1)) pe_int (nomark _)) (pss_one (ps_ret (pc F_line hr (by decide) (pa_cons (pv 0) pa_nil)))) pss_nil)
      (pss_cons (ps_if (pt_cmpR op_eq (pe_f 0 T.kC (pv 1)) pe_int (nomark _)) (pss_one (ps_ret (pc F_past hr (by decide) (pa_cons (pv 0) pa_nil)))) pss_nil)
      (pss_cons (ps_if (pt_cmpR op_eq (pe_f 0 T.kC (pv 1)) pe_int (nomark _)) (pss_one (ps_ret (pcx F_table hr (by decide) (takes_of rfl rfl rfl rfl) (pa_cons (pv 0) pa_nil)))) pss_nil)
      (pss_cons (ps_if (pt_cmpR op_eq (pe_f 0 T.kC (pv 1)) pe_int (nomark _)) (pss_one (ps_ret (pc F_squeezed hr (by decide) (pa_cons (pv 0) pa_nil)))) pss_nil)
      (pss_one (ps_ret (pc F_told hr (by decide) (pa_cons (pv 0) pa_nil)))))))))))), ?_⟩
  obtain ⟨_, e0, s, de, sl, pl, v, as, x, c, N, rfl, h, hc, hw, q, n⟩ := h
  obtain ⟨dx, nl, rl, rs, p, nums, rows, e, h1, h2, h3, h4, _⟩ := hc.ex
  rcases hw with rfl | rfl | rfl | rfl | rfl | rfl | rfl | rfl | rfl
  · cases e
    refine ⟨_, rfl, x, dx, _, _, rfl, h1, rfl, rfl, _, rfl, ?_⟩
    rw [dint]
    refine if_t (by decide) ?_
    exact ⟨_, rfl, rfl, e0, s, de, sl, pl, v, as, rfl, h, q, n⟩
  · cases e
    refine ⟨_, rfl, x, dx, _, _, rfl, h1, rfl, rfl, _, rfl, ?_⟩
    rw [dint]
    refine if_f (by decide) ?_
    refine ⟨_, rfl, x, dx, _, _, rfl, h1, rfl, rfl, _, rfl, ?_⟩
    rw [dint]
    refine if_t (by decide) ?_
    exact ⟨_, rfl, rfl, e0, s, de, sl, pl, v, as, rfl, h, q⟩
  · cases e
    refine ⟨_, rfl, x, dx, _, _, rfl, h1, rfl, rfl, _, rfl, ?_⟩
    rw [dint]
    refine if_f (by decide) ?_
    refine ⟨_, rfl, x, dx, _, _, rfl, h1, rfl, rfl, _, rfl, ?_⟩
    rw [dint]
    refine if_f (by decide) ?_
    refine ⟨_, rfl, x, dx, _, _, rfl, h1, rfl, rfl, _, rfl, ?_⟩
    rw [dint]
    refine if_t (by decide) ?_
    exact ⟨_, rfl, rfl, e0, s, de, sl, pl, v, as, rfl, h, q⟩
  · cases e
    refine ⟨_, rfl, x, dx, _, _, rfl, h1, rfl, rfl, _, rfl, ?_⟩
    rw [dint]
    refine if_f (by decide) ?_
    refine ⟨_, rfl, x, dx, _, _, rfl, h1, rfl, rfl, _, rfl, ?_⟩
    rw [dint]
    refine if_f (by decide) ?_
    refine ⟨_, rfl, x, dx, _, _, rfl, h1, rfl, rfl, _, rfl, ?_⟩
    rw [dint]
    refine if_f (by decide) ?_
    refine ⟨_, rfl, x, dx, _, _, rfl, h1, rfl, rfl, _, rfl, ?_⟩
    rw [dint]
    refine if_t (by decide) ?_
    exact ⟨_, rfl, rfl, e0, s, de, sl, pl, v, as, rfl, h, q⟩
  · cases e
    refine ⟨_, rfl, x, dx, _, _, rfl, h1, rfl, rfl, _, rfl, ?_⟩
    rw [dint]
    refine if_f (by decide) ?_
    refine ⟨_, rfl, x, dx, _, _, rfl, h1, rfl, rfl, _, rfl, ?_⟩
    rw [dint]
    refine if_f (by decide) ?_
    refine ⟨_, rfl, x, dx, _, _, rfl, h1, rfl, rfl, _, rfl, ?_⟩
    rw [dint]
    refine if_f (by decide) ?_
    refine ⟨_, rfl, x, dx, _, _, rfl, h1, rfl, rfl, _, rfl, ?_⟩
    rw [dint]
    refine if_f (by decide) ?_
    refine ⟨_, rfl, x, dx, _, _, rfl, h1, rfl, rfl, _, rfl, ?_⟩
    rw [dint]
    refine if_t (by decide) ?_
    exact ⟨_, rfl, rfl, e0, s, de, sl, pl, v, as, rfl, h, q⟩
  · cases e
    refine ⟨_, rfl, x, dx, _, _, rfl, h1, rfl, rfl, _, rfl, ?_⟩
    rw [dint]
    refine if_f (by decide) ?_
    refine ⟨_, rfl, x, dx, _, _, rfl, h1, rfl, rfl, _, rfl, ?_⟩
    rw [dint]
    refine if_f (by decide) ?_
    refine ⟨_, rfl, x, dx, _, _, rfl, h1, rfl, rfl, _, rfl, ?_⟩
    rw [dint]
    refine if_f (by decide) ?_
    refine ⟨_, rfl, x, dx, _, _, rfl, h1, rfl, rfl, _, rfl, ?_⟩
    rw [dint]
    refine if_f (by decide) ?_
    refine ⟨_, rfl, x, dx, _, _, rfl, h1, rfl, rfl, _, rfl, ?_⟩
    rw [dint]
    refine if_f (by decide) ?_
    refine ⟨_, rfl, x, dx, _, _, rfl, h1, rfl, rfl, _, rfl, ?_⟩
    rw [dint]
    refine if_t (by decide) ?_
    exact ⟨_, rfl, rfl, e0, s, de, sl, pl, v, as, rfl, h, q⟩
  · cases e
    refine ⟨_, rfl, x, dx, _, _, rfl, h1, rfl, rfl, _, rfl, ?_⟩
    rw [dint]
    refine if_f (by decide) ?_
    refine ⟨_, rfl, x, dx, _, _, rfl, h1, rfl, rfl, _, rfl, ?_⟩
    rw [dint]
    refine if_f (by decide) ?_
    refine ⟨_, rfl, x, dx, _, _, rfl, h1, rfl, rfl, _, rfl, ?_⟩
    rw [dint]
    refine if_f (by decide) ?_
    refine ⟨_, rfl, x, dx, _, _, rfl, h1, rfl, rfl, _, rfl, ?_⟩
    rw [dint]
    refine if_f (by decide) ?_
    refine ⟨_, rfl, x, dx, _, _, rfl, h1, rfl, rfl, _, rfl, ?_⟩
    rw [dint]
    refine if_f (by decide) ?_
    refine ⟨_, rfl, x, dx, _, _, rfl, h1, rfl, rfl, _, rfl, ?_⟩
    rw [dint]
    refine if_f (by decide) ?_
    refine ⟨_, rfl, x, dx, _, _, rfl, h1, rfl, rfl, _, rfl, ?_⟩
    rw [dint]
    refine if_t (by decide) ?_
    exact ⟨_, rfl, rfl, e0, s, de, sl, pl, v, as, rfl, h, q, n⟩
  · cases e
    refine ⟨_, rfl, x, dx, _, _, rfl, h1, rfl, rfl, _, rfl, ?_⟩
    rw [dint]
    refine if_f (by decide) ?_
    refine ⟨_, rfl, x, dx, _, _, rfl, h1, rfl, rfl, _, rfl, ?_⟩
    rw [dint]
    refine if_f (by decide) ?_
    refine ⟨_, rfl, x, dx, _, _, rfl, h1, rfl, rfl, _, rfl, ?_⟩
    rw [dint]
    refine if_f (by decide) ?_
    refine ⟨_, rfl, x, dx, _, _, rfl, h1, rfl, rfl, _, rfl, ?_⟩
    rw [dint]
    refine if_f (by decide) ?_
    refine ⟨_, rfl, x, dx, _, _, rfl, h1, rfl, rfl, _, rfl, ?_⟩
    rw [dint]
    refine if_f (by decide) ?_
    refine ⟨_, rfl, x, dx, _, _, rfl, h1, rfl, rfl, _, rfl, ?_⟩
    rw [dint]
    refine if_f (by decide) ?_
    refine ⟨_, rfl, x, dx, _, _, rfl, h1, rfl, rfl, _, rfl, ?_⟩
    rw [dint]
    refine if_f (by decide) ?_
    refine ⟨_, rfl, x, dx, _, _, rfl, h1, rfl, rfl, _, rfl, ?_⟩
    rw [dint]
    refine if_t (by decide) ?_
    exact ⟨_, rfl, rfl, e0, s, de, sl, pl, v, as, rfl, h, q⟩
  · cases e
    refine ⟨_, rfl, x, dx, _, _, rfl, h1, rfl, rfl, _, rfl, ?_⟩
    rw [dint]
    refine if_f (by decide) ?_
    refine ⟨_, rfl, x, dx, _, _, rfl, h1, rfl, rfl, _, rfl, ?_⟩
    rw [dint]
    refine if_f (by decide) ?_
    refine ⟨_, rfl, x, dx, _, _, rfl, h1, rfl, rfl, _, rfl, ?_⟩
    rw [dint]
    refine if_f (by decide) ?_
    refine ⟨_, rfl, x, dx, _, _, rfl, h1, rfl, rfl, _, rfl, ?_⟩
    rw [dint]
    refine if_f (by decide) ?_
    refine ⟨_, rfl, x, dx, _, _, rfl, h1, rfl, rfl, _, rfl, ?_⟩
    rw [dint]
    refine if_f (by decide) ?_
    refine ⟨_, rfl, x, dx, _, _, rfl, h1, rfl, rfl, _, rfl, ?_⟩
    rw [dint]
    refine if_f (by decide) ?_
    refine ⟨_, rfl, x, dx, _, _, rfl, h1, rfl, rfl, _, rfl, ?_⟩
    rw [dint]
    refine if_f (by decide) ?_
    refine ⟨_, rfl, x, dx, _, _, rfl, h1, rfl, rfl, _, rfl, ?_⟩
    rw [dint]
    refine if_f (by decide) ?_
    exact ⟨_, rfl, rfl, e0, s, de, sl, pl, v, as, rfl, h, q⟩
end
end Lt
/-! # LtY4: answer, answers -/
namespace Lt
open PySem PySem.Spec PyProof.Rows L2
open Vbbraf (State step stepRows)
section
variable {a : Ads} {w : World} {H H1 : Hp} {e : Addr} {s : State} {de sl pl v : Addr} {as : List Addr}
theorem mine_back {b : Addr} {o : HO} (h : H e = some o) (h' : H1 e = some o) (m : Mine a H1 e b) : Mine a H e b := by
  rcases m with m | ⟨de, sl, pl, v, m1, m2⟩
  · exact .inl m
  · rw [h', ← h] at m1
    exact .inr ⟨de, sl, pl, v, m1, m2⟩
theorem EndAt.upd1 {r : Addr} {xs : List V} {o : HO} (h : EndAt a w H e s) (m : ¬ Mine a H e r) (hr : H r = some (.lst xs)) : EndAt a w (upd H r o) e s ∧ ∀ b, Mine a (upd H r o) e b → Mine a H e b := by
  obtain ⟨de, sl, pl, v, as, h⟩ := h
  have n1 : e ≠ r := fun z => m (.inl z.symm)
  have n2 : sl ≠ r := fun z => m (.inr ⟨de, sl, pl, v, h.he, .inl z.symm⟩)
  have n3 : pl ≠ r := fun z => m (.inr ⟨de, sl, pl, v, h.he, .inr z.symm⟩)
  have he := (upd_ne (o := o) n1).trans h.he
  exact ⟨⟨de, sl, pl, v, as, he, (upd_ne n2).trans h.hs, (upd_ne n3).trans h.hp, h.ne, h.len, fun i x e => (h.sts i x e).lst hr, h.val.lst hr, h.good⟩, fun b => mine_back h.he he⟩
theorem Yes.mono {r : State × List Int} {Q : VK} (h : EndIs a w H e s de sl pl v as) (k : Kp H H1) (q : Yes a w H e r Q) : Yes a w H1 e r Q := fun p H2 f => q p H2 ((h.fr k).trans f)
end
section
variable {P : Program} {w : World} {K : PySem.W.Frag} {mg : Str → Option Value} {base : Heap} {a : Ads}
def sp_answer (a : Ads) (w : World) : Sp := fun vs H Q _ => vs.length = 2 ∧ ∃ e s de sl pl v as x c N, vs = [.ref e, .ref x] ∧ EndIs a w H e s de sl pl v as ∧ CallIs a H x c N ∧ (WithA c ∨ NoA c) ∧ Yes a w H e (stepRows s c) Q
theorem ok_answer (D : Dn K mg "answer" s_answer) (T : Txt K mg a) (F_answer_with_arguments : FnA P w K mg base (L2.CX P w) 61 "answer_with_arguments" (sp_awa a w)) (F_answer_without_arguments : FnA P w K mg base (L2.CX P w) 62 "answer_without_arguments" (sp_awo a w)) :
    FnA P w K mg base CX0 63 "answer" (sp_answer a w) := by
  refine D.ok sc_answer (fun _ _ _ _ _ _ us hl => match us, hl with | [_, _], _ => rfl) (fun _ _ _ _ h => h.1) fun f cdv A outer s H vs Q E hr h => ⟨_, (pss_one (ps_try_as (i := 2) (Wout := fun _ _ _ _ => False) rfl rfl sc_answer.nd rfl rfl ⟨rfl, by decide, Or.inl T.gR⟩ takes0
      (fun W pn xe tk _ => (pss_cons (ps_if (pt_cmpR (op_inK (K := K)) (pe_f 0 T.kC (pv 1)) (pe_tup (pa_cons pe_int (pa_cons pe_int (pa_cons pe_int (pa_cons pe_int (pa_cons pe_int pa_nil)))))) (by with_unfolding_all rfl)) (pss_one (ps_ret (pcx F_answer_with_arguments hr (by decide) tk (pa_cons (pv 0) (pa_cons (pv 1) pa_nil))))) pss_nil)
      (pss_one (ps_ret (pcx F_answer_without_arguments hr (by decide) tk (pa_cons (pv 0) (pa_cons (pv 1) pa_nil)))))))
      (fun a oe cls d pn hz hf => (pss_one (ps_ret (pe_lst (pa_cons (pe_xf T.xf T.noc hz hf (pv 2)) pa_nil))))))), ?_⟩
  obtain ⟨_, e0, s, de, sl, pl, v, as, x, c, N, rfl, h, hc, hw, q⟩ := h
  obtain ⟨dx, nl, rl, rs, p, nums, rows, e, h1, h2, h3, h4, _⟩ := hc.ex
  have no : ∀ (H5 : Hp) (σ : L2.St), σ.length = 3 → Same H H5 → No a w H5 e0 s (stepRows s c) (fun cls d H' => wAs K (.ref a.R) 2 (fun a_1 cls d => tRet (tLst (tCons (tXf a_1 cls d a.R (Str.ofString "code") (tVar 2)) tNil))) (fun x x_1 x_2 x_3 => False) { nx := fun x H' => Q V.non H', rt := Q } cls d σ H') := fun H5 σ hσ s5 k d H' hr f he hd => by
    refine ⟨true, T.te, fun _ y hy => ⟨_, ?_, rfl, rfl, d, _, _, rfl, hd, rfl, sz 1 (by decide), fun p hp => ?_⟩, fun z => Bool.noConfusion z⟩
    · match σ, hσ with
      | [_, _, _], _ => rfl
    · have := q p H' ((h.fr (Kp.of s5)).trans f) (by rw [hr]; exact he) hp
      rw [hr] at this
      exact this
  refine ⟨_, rfl, x, dx, _, _, rfl, h1, rfl, sz 5 (by decide), fun t5 h5 => ⟨t5, _, rfl, .inr (SqT.of upd_same), rfl, rfl, _, rfl, ?_⟩⟩
  have s5 := same_new h5 (.tup [V.int 0, V.int 1, V.int 7, V.int 10, V.int 12])
  have h' := h.same s5
  have hc' := hc.same s5
  have q' := q.mono h (Kp.of s5)
  rcases hw with hw | hw
  · refine if_t ?_ ⟨_, rfl, _, rfl, rfl, e0, s, de, sl, pl, v, as, x, c, N, rfl, h', hc', hw, q', no _ _ rfl s5⟩
    rcases hw with ⟨t, l, x0, x1, x2, x3, rfl⟩ | ⟨z, rfl⟩ | ⟨ns, rfl⟩ | ⟨z, rfl⟩ | ⟨d, k, rfl⟩ <;> cases e <;> rfl
  · refine if_f ?_ ⟨_, rfl, _, rfl, rfl, e0, s, de, sl, pl, v, as, x, c, N, rfl, h', hc', hw, q', no _ _ rfl s5⟩
    rcases hw with rfl | rfl | rfl | rfl | rfl | rfl | rfl | rfl | rfl <;> cases e <;> rfl
def after (s : State) : List (List (List Int)) → State
  | [] => s
  | c :: r => after (stepRows s c).1 r
theorem after_snoc : ∀ (cs : List (List (List Int))) (s : State) (c : List (List Int)), after s (cs ++ [c]) = (stepRows (after s cs) c).1
  | [], _, _ => rfl
  | d :: cs, s, c => after_snoc cs _ c
theorem played_snoc : ∀ (cs : List (List (List Int))) (s : State) (c : List (List Int)), PyFlat.played stepRows s (cs ++ [c]) = PyFlat.played stepRows s cs ++ [(stepRows (after s cs) c).2]
  | [], _, _ => rfl
  | d :: cs, s, c => by
    show _ :: PyFlat.played stepRows _ (cs ++ [c]) = _ :: (PyFlat.played stepRows _ cs ++ _)
    rw [played_snoc cs _ c]
    rfl
theorem told_snoc (l : List (List Int)) (x : List Int) : PyFlat.told (l ++ [x]) = PyFlat.told l ++ ((x.length : Int) :: x) := by
  unfold PyFlat.told
  rw [List.flatMap_append, List.flatMap_singleton]
theorem played_take : ∀ (cs : List (List (List Int))) (s : State) (i : Nat), (PyFlat.told (PyFlat.played stepRows s (cs.take i))).length ≤ (PyFlat.told (PyFlat.played stepRows s cs)).length
  | [], _, i => by rw [List.take_nil]; exact Nat.le_refl _
  | c :: cs, s, 0 => Nat.zero_le _
  | c :: cs, s, i + 1 => by
    show (((_ : Int) :: (stepRows s c).2) ++ PyFlat.told (PyFlat.played stepRows (stepRows s c).1 (cs.take i))).length ≤ (((_ : Int) :: (stepRows s c).2) ++ PyFlat.told (PyFlat.played stepRows (stepRows s c).1 cs)).length
    rw [List.length_append, List.length_append]
    have := played_take cs (stepRows s c).1 i
    omega
def sp_answers (K : PySem.W.Frag) : Sp := fun vs H Q _ => vs.length = 1 ∧ ∃ (cb : Addr) (raw : List (List (List Int))), vs = [.ref cb] ∧ SqL K H cb ((PyFlat.put raw).map V.int) ∧ (∀ c ∈ raw, PyFlat.okCall PyVbbraf.shape c) ∧ raw.length ≤ 1000 ∧ (PyFlat.told (PyFlat.played stepRows Vbbraf.start raw)).length ≤ 10000000 ∧
  ∀ r H', H' r = some (.lst ((PyFlat.told (PyFlat.played stepRows Vbbraf.start raw)).map V.int)) → Q (.ref r) H'
theorem ok_answers {fa : Addr} {fd : FuncData} (Fu : Fun K "answers" "answers" s_answers fa fd) (T : Txt K mg a) (F_calls_of : FnA P w K mg base CX0 3 "calls_of" (sp_calls_of a K)) (F_answer : FnA P w K mg base CX0 63 "answer" (sp_answer a w)) (K_E : MkA P w K mg base 3 "Ending" a.E (sp_Ending a w)) :
    FnOk P w K mg base CX0 64 fa fd ["calls"] (sp_answers K) := by
  refine Fu.ok sc_answers (fun _ _ _ _ h => h.1) fun cdv A outer s H vs Q E hr h => ⟨_, (pss_cons (ps_set (i := 1) sc_answers.nd rfl (Or.inl rfl) (pmk0 K_E hr (by decide)))
      (pss_cons (ps_set (i := 2) sc_answers.nd rfl (Or.inl rfl) (pe_lst pa_nil))
      (pss_cons (ps_for PassesOwn.never rfl (pi_list (pc F_calls_of hr (by decide) (pa_cons (pv 0) pa_nil))) (pg_name (i := 3) sc_answers.nd rfl (Or.inl rfl)) (pss_cons (ps_set (i := 4) sc_answers.nd rfl (Or.inl rfl) (pc F_answer hr (by decide) (pa_cons (pv 1) (pa_cons (pv 3) pa_nil))))
      (pss_cons (ps_expr (pe_bm PySem.F.plainAttrs_list PySem.F.slot_list_append PySem.F.type_list_append mt_append (pv 2) (pa_cons (pe_callB (cl_len (K := K)) (by rfl) T.m_len PySem.boot_len (pa_cons (pv 4) pa_nil)) pa_nil)))
      (pss_one (ps_expr (pe_bm PySem.F.plainAttrs_list PySem.F.slot_list_extend PySem.F.type_list_extend mt_extend (pv 2) (pa_cons (pv 4) pa_nil)))))))
      (pss_one (ps_ret (pv 2)))))), ?_⟩
  obtain ⟨_, cb, raw, rfl, hcb, hok, hn, hz, q⟩ := h
  refine use_Ending fun e H1 he s1 E1 m1 => ?_
  refine ⟨sz 0 (by decide), fun r hr => ?_⟩
  have s2 := s1.trans (same_new hr (.lst []))
  refine ⟨_, rfl, rfl, cb, raw, rfl, (Kp.of s2).sqL hcb, hok, hn, fun l H3 xs s3 l0 l3 c3 => ?_⟩
  have hsz : (10000000 : Nat) < sizeLine := by rw [sizeLine_eq]; decide
  have E2 : EndAt a w (upd H1 r (.lst [])) e Vbbraf.start := E1.same (same_new hr _)
  obtain ⟨de, sl, pl, v, as, e2⟩ := id E2
  have r3 := s3 _ _ (upd_same (H := H1) (a := r) (o := .lst []))
  obtain ⟨de1, sl1, pl1, v1, as1, e1⟩ := id E1
  have ne_r : e ≠ r := ne_of_none e1.he hr
  have mine3 : ∀ b, Mine a H3 e b → (upd H1 r (.lst [])) b ≠ none ∧ b ≠ r := fun b m => by
    rcases m with m | ⟨de', sl', pl', v', m2, m3⟩
    · rw [m]; exact ⟨by rw [e2.he]; simp, ne_r⟩
    · rw [s3 _ _ e2.he] at m2
      cases m2
      have z := e2.he
      rw [upd_ne ne_r, e1.he] at z
      cases z
      rcases m3 with m3 | m3
      · rw [m3]; exact ⟨by rw [e2.hs]; simp, ne_of_none e1.hs hr⟩
      · rw [m3]; exact ⟨by rw [e2.hp]; simp, ne_of_none e1.hp hr⟩
  have lr : l ≠ r := fun z => by rw [z, upd_same] at l0; cases l0
  refine ⟨l, rfl, ⟨_, SqL.of l3⟩, for_list (K := K) (xs := xs.map V.ref) (fun i σ H' => EndAt a w H' e (after Vbbraf.start (raw.take i)) ∧ (∀ b o, H3 b = some o → NoExt o → ¬ Mine a H3 e b → b ≠ r → H' b = some o ∧ ¬ Mine a H' e b) ∧ H' r = some (.lst ((PyFlat.told (PyFlat.played stepRows Vbbraf.start (raw.take i))).map V.int)) ∧ ¬ Mine a H' e r ∧
      ∃ z3 z4, σ = [some (.ref cb), some (.ref e), some (.ref r), z3, z4])
    ⟨E2.same s3, fun b o z _ m _ => ⟨z, m⟩, r3, fun m => (mine3 r m).2 rfl, none, none, rfl⟩ (fun i σ H' _ g => ?_) (fun i y σ H' hi g => ?_) (fun σ H' g => ?_)⟩
  · exact SqL.of (g.2.1 l _ l3 trivial (fun m => (mine3 l m).1 l0) lr).1
  · obtain ⟨x, ex, rfl⟩ := ref_at hi
    obtain ⟨c, ec, hc⟩ := c3.2 i x ex
    obtain ⟨g1, g2, g3, g4, z3, z4, rfl⟩ := g
    have hok' := kinds (hok c (List.mem_of_getElem? ec))
    have hc' : CallIs a H' x c (fun b => (upd H1 r (.lst [])) b ≠ none ∨ b = l) := hc.imp fun b o z no nb => by
      refine (g2 b o z no (fun m => nb (.inl (mine3 b m).1)) fun y => nb (.inl ?_)).1
      rw [y, upd_same]
      exact fun z => by cases z
    obtain ⟨de', sl', pl', v', as', e'⟩ := id g1
    refine ⟨_, rfl, _, rfl, rfl, e, _, de', sl', pl', v', as', x, c, _, rfl, e', hc', hok', fun p H4 f4 E4 hp => ?_⟩
    rw [← after_snoc, ← take_more ec] at E4
    obtain ⟨r4, m4⟩ := f4 r _ g3 trivial g4
    have npr : r ≠ p := ne_of_none r4 hp
    have r5 : (upd H4 p (.lst ((stepRows (after Vbbraf.start (raw.take i)) c).2.map V.int))) r = _ := (upd_ne npr).trans r4
    have tl := played_take raw Vbbraf.start (i + 1)
    have tle : PyFlat.told (PyFlat.played stepRows Vbbraf.start (raw.take (i + 1))) = PyFlat.told (PyFlat.played stepRows Vbbraf.start (raw.take i)) ++ (((stepRows (after Vbbraf.start (raw.take i)) c).2.length : Int) :: (stepRows (after Vbbraf.start (raw.take i)) c).2) := by
      rw [take_more ec, played_snoc, told_snoc]
    rw [tle, List.length_append, List.length_cons] at tl
    have E4' : EndAt a w (upd H4 p (.lst ((stepRows (after Vbbraf.start (raw.take i)) c).2.map V.int))) e _ := E4.same (same_new hp _)
    have M4 : ∀ b, Mine a (upd H4 p (.lst ((stepRows (after Vbbraf.start (raw.take i)) c).2.map V.int))) e b → Mine a H4 e b := fun b => by
      obtain ⟨_, _, _, _, _, y⟩ := E4
      exact mine_back y.he (same_new hp _ _ _ y.he)
    have E5 := E4'.upd1 (o := .lst ((PyFlat.told (PyFlat.played stepRows Vbbraf.start (raw.take i))).map V.int ++ [V.int (((stepRows (after Vbbraf.start (raw.take i)) c).2.map V.int).length : Nat)])) (fun m => m4 (M4 r m)) r5
    have F5 := E5.1.upd1 (r := r) (xs := (PyFlat.told (PyFlat.played stepRows Vbbraf.start (raw.take i))).map V.int ++ [V.int (((stepRows (after Vbbraf.start (raw.take i)) c).2.map V.int).length : Nat)]) (o := .lst ((PyFlat.told (PyFlat.played stepRows Vbbraf.start (raw.take i))).map V.int ++ [V.int (((stepRows (after Vbbraf.start (raw.take i)) c).2.map V.int).length : Nat)] ++ (stepRows (after Vbbraf.start (raw.take i)) c).2.map V.int)) (fun m => m4 (M4 r (E5.2 r m))) upd_same
    refine ⟨_, rfl, .inl ⟨rfl, _, SqL.of r5⟩, _, rfl, p, _, rfl, .inl (SqL.of upd_same), r, _, _, rfl, rfl, r5, ?_, ?_⟩
    · rw [List.length_map]
      omega
    refine ⟨_, rfl, .inl ⟨rfl, _, SqL.of upd_same⟩, _, rfl, r, p, _, _, rfl, rfl, upd_same, (upd_ne (Ne.symm npr)).trans upd_same, ?_, ?_, fun b o z no nm nr => ?_, ?_, ?_, _, _, rfl⟩
    · rw [List.length_append, List.length_map, List.length_map, List.length_singleton]
      omega
    · exact F5.1
    · have nb : ¬ Mine a H' e b := (g2 b o z no nm nr).2
      obtain ⟨w1, w2⟩ := f4 b o (g2 b o z no nm nr).1 no nb
      refine ⟨?_, fun m => w2 (M4 b (E5.2 b (F5.2 b m)))⟩
      rw [upd_ne nr, upd_ne nr, upd_ne (ne_of_none w1 hp)]
      exact w1
    · rw [upd_same, tle, List.map_append, List.append_assoc, List.length_map]
      rfl
    · exact fun m => m4 (M4 r (E5.2 r (F5.2 r m)))
  · obtain ⟨g1, g2, g3, g4, z3, z4, rfl⟩ := g
    refine ⟨_, rfl, q r H' ?_⟩
    rw [List.length_map, c3.1, List.take_length] at g3
    exact g3
end
end Lt
/-! # LtZ1: all defs together -/
namespace Lt
open PySem PySem.Spec PyProof.Rows L2
theorem ans_of {P : Program} {w : World} {K : PySem.W.Frag} {mg : Str → Option Value} {base : Heap} {a : Ads} {fa : Addr} {fd : FuncData} (F : Facts K mg a) (Fu : Fun K "answers" "answers" s_answers fa fd) : FnOk P w K mg base CX0 64 fa fd ["calls"] (sp_answers K) := by
  have T := F.T
  have R : RfA P w K mg base a := ok_ref F.R T
  have F_allow := ok_allow (P := P) (w := w) (base := base) F.d_allow T R
  have K_P := ok_rec4 (P := P) (w := w) (base := base) F.d_Position_init T
  have K_S := ok_rec2 (P := P) (w := w) (base := base) F.d_State_init T
  have K_C := ok_rec3 (P := P) (w := w) (base := base) F.d_Call_init T
  have F_suit_of := ok_suit_of (P := P) (w := w) (base := base) F.d_suit_of T
  have F_side_of := ok_side_of (P := P) (w := w) (base := base) F.d_side_of T
  have F_seat_on_turn := ok_seat_on_turn (P := P) (w := w) (base := base) F.d_seat_on_turn T
  have F_hand_on_turn := ok_hand_on_turn (P := P) (w := w) (base := base) F.d_hand_on_turn T F_seat_on_turn
  have F_playable := ok_playable (P := P) (w := w) (base := base) F.d_playable T F_hand_on_turn F_suit_of
  have F_cards_left := ok_cards_left (P := P) (w := w) (base := base) F.d_cards_left T
  have F_tricks_left := ok_tricks_left (P := P) (w := w) (base := base) F.d_tricks_left T F_cards_left
  have F_beats := ok_beats (P := P) (w := w) (base := base) F.d_beats T F_suit_of
  have F_winning_seat := ok_winning_seat (P := P) (w := w) (base := base) F.d_winning_seat T F_beats
  have F_hands_without := ok_hands_without (P := P) (w := w) (base := base) F.d_hands_without T
  have F_position_after := ok_position_after (P := P) (w := w) (base := base) F.d_position_after T F_seat_on_turn F_hands_without F_winning_seat K_P
  have F_side_of_trick := ok_side_of_trick (P := P) (w := w) (base := base) F.d_side_of_trick T F_side_of F_winning_seat
  have F_tricks0 := ok_tricks0 (P := P) (w := w) (base := base) F.d_tricks_of_side_0 T F_side_of_trick
  have K_V := ok_Valuer (P := P) (w := w) (base := base) F.d_Valuer_init T
  have vals := vals_all (P := P) (w := w) (base := base) F.d_Valuer_value F.d_Valuer_best_value F.d_Valuer_value_by T F_playable F_side_of F_seat_on_turn F_cards_left F_tricks0 F_position_after
  have M_value : MtA P w K mg base 57 a.V "value" (sp_value a w 17) := vals 17
  have M_by : MtA P w K mg base 55 a.V "value_by" (sp_by a w 17) := ok_by (n := 16) F.d_Valuer_value_by T F_tricks0 F_position_after (vals 16)
  have M_gift := ok_gift (P := P) (w := w) (base := base) F.d_Valuer_gift T F_side_of F_seat_on_turn M_value M_by
  have M_least := ok_least (P := P) (w := w) (base := base) F.d_Valuer_least_keeping T F_playable M_gift
  have M_bline := ok_bline (P := P) (w := w) (base := base) F.d_Valuer_best_line T F_cards_left F_position_after M_least
  have K_A := ok_Account (P := P) (w := w) (base := base) F.d_Account_init T
  have M_asnum := ok_asnum (P := P) (w := w) (base := base) F.d_Account_as_numbers T
  have F_account_of := ok_account_of (P := P) (w := w) (base := base) F.d_account_of T F_playable F_side_of F_seat_on_turn F_tricks0 F_position_after M_value M_gift K_A
  have F_allow_card := ok_allow_card (P := P) (w := w) (base := base) F.d_allow_card T F_allow
  have F_allow_cards := ok_allow_cards (P := P) (w := w) (base := base) F.d_allow_cards T F_allow F_allow_card
  have F_told_cards := ok_told_cards (P := P) (w := w) (base := base) F.d_told_cards T
  have F_unlike := ok_are_unlike (P := P) (w := w) (base := base) F.d_are_unlike T
  have F_truth := ok_truth (P := P) (w := w) (base := base) F.d_truth T
  have F_between := ok_is_one_between (P := P) (w := w) (base := base) F.d_is_one_between T
  have F_elsewhere := ok_elsewhere (P := P) (w := w) (base := base) F.d_cards_elsewhere T
  have F_sqz := ok_squeezed_card (P := P) (w := w) (base := base) F.d_squeezed_card T F_suit_of
  have F_won_after := ok_won_after (P := P) (w := w) (base := base) F.d_won_after T F_side_of_trick
  have K_E := ok_Ending (P := P) (w := w) (base := base) F.d_Ending_init T K_P K_S K_V
  have M_dealt := ok_dealt (P := P) (w := w) (base := base) F.d_Ending_dealt T
  have M_present := ok_present (P := P) (w := w) (base := base) F.d_Ending_present T
  have M_won_now := ok_won_now (P := P) (w := w) (base := base) F.d_Ending_won_now T
  have F_turn_numbers := ok_turn_numbers (P := P) (w := w) (base := base) F.d_turn_numbers T F_seat_on_turn M_present M_won_now
  have F_turn := ok_turn (P := P) (w := w) (base := base) F.d_turn T F_turn_numbers F_told_cards F_playable M_present
  have F_value := ok_cvalue (P := P) (w := w) (base := base) F.d_value T M_value M_present
  have F_cards := ok_cards (P := P) (w := w) (base := base) F.d_cards_with_values T F_playable M_by M_present
  have F_line := ok_cline (P := P) (w := w) (base := base) F.d_line T F_told_cards M_bline M_present
  have F_past := ok_past (P := P) (w := w) (base := base) F.d_past T F_account_of M_dealt M_asnum
  have F_account := ok_caccount (P := P) (w := w) (base := base) F.d_account T F_allow F_allow_cards F_account_of M_present M_asnum
  have F_can := ok_can (P := P) (w := w) (base := base) F.d_can T F_allow F_truth F_tricks_left M_value M_present
  have F_told := ok_told (P := P) (w := w) (base := base) F.d_told T F_told_cards M_present
  have F_table := ok_table (P := P) (w := w) (base := base) F.d_table T F_allow F_cards_left K_P M_value M_present
  have F_alike := ok_alike (P := P) (w := w) (base := base) F.d_alike T F_allow F_allow_card F_elsewhere F_suit_of F_between F_told_cards M_present
  have F_squeezed := ok_squeezed (P := P) (w := w) (base := base) F.d_squeezed T F_sqz F_told_cards M_present
  have F_play := ok_play (P := P) (w := w) (base := base) F.d_play T F_allow F_allow_card F_cards_left F_hand_on_turn F_playable F_position_after F_won_after F_turn_numbers K_S M_present
  have F_back := ok_back (P := P) (w := w) (base := base) F.d_back T F_allow F_turn_numbers
  have F_deal := ok_deal (P := P) (w := w) (base := base) F.d_deal T F_allow F_allow_cards F_unlike K_P K_S K_V
  have F_calls_of := ok_calls_of (P := P) (w := w) (base := base) F.d_calls_of T K_C
  have F_awa := ok_awa (P := P) (w := w) (base := base) F.d_answer_with_arguments T F_deal F_play F_account F_alike F_can
  have F_awo := ok_awo (P := P) (w := w) (base := base) F.d_answer_without_arguments T F_back F_turn F_value F_cards F_line F_past F_table F_squeezed F_told
  have F_answer := ok_answer (P := P) (w := w) (base := base) F.d_answer T F_awa F_awo
  exact ok_answers Fu T F_calls_of F_answer K_E
/-- the last form: what walk_specK asks of the def at the address that the name has -/
theorem ans_fn {P : Program} {w : World} {K : PySem.W.Frag} {mg : Str → Option Value} {a : Ads} {fa : Addr} (F : Facts K mg a) (hm : mg "answers" = some (.ref fa)) :
    ∃ fd : FuncData, (∀ (s : Shared) (us : List Value), us.length = (["calls"] : List Str).length → BindsTo s fd ⟨us, []⟩ ((["calls"] : List Str).zip us)) ∧ ∀ base : Heap, K.In base → base.Ns mainGlobals mg → FnOk P w K mg base CX0 64 fa fd ["calls"] (sp_answers K) := by
  obtain ⟨f, fd, G, hf⟩ := F.d_answers.ex
  have e := hm.symm.trans hf
  cases e
  refine ⟨fd, ?_, fun base _ _ => ans_of F G⟩
  obtain ⟨oc, od, kV, doc, pm, an, cdv, ct, osl, rfl, lk, hcd⟩ := G.ex
  exact fun s us hu => match us, hu with | [_], _ => .of_eq rfl
theorem whole_id {c : List (List Int)} (h : WithA c ∨ NoA c) : PyVbbraf.whole c = c := by
  rcases h with (⟨t, l, x0, x1, x2, x3, rfl⟩ | ⟨z, rfl⟩ | ⟨ns, rfl⟩ | ⟨z, rfl⟩ | ⟨d, k, rfl⟩) | (rfl | rfl | rfl | rfl | rfl | rfl | rfl | rfl | rfl) <;> rfl
theorem due {ns : List Int} (h : PyVbbraf.answers_asked ns = true) : ∃ raw, ns = PyFlat.put raw ∧ (∀ c ∈ raw, PyFlat.okCall PyVbbraf.shape c) ∧ raw.length ≤ 1000 ∧ (PyFlat.told (PyFlat.played Vbbraf.stepRows Vbbraf.start raw)).length ≤ 10000000 ∧ PyVbbraf.answers ns = PyFlat.told (PyFlat.played Vbbraf.stepRows Vbbraf.start raw) := by
  unfold PyVbbraf.answers_asked at h
  cases e : PyFlat.calls PyVbbraf.shape ns.length ns with
  | none => rw [e] at h; cases h
  | some raw =>
    rw [e] at h
    have h' : (!raw.isEmpty && PyFlat.atMost 100 raw && PyInside.calls PyVbbraf.bound raw && VbbrafNeutral.asked (raw.map PyVbbraf.whole) && PyFlat.short 10000000 (PyVbbraf.answers ns)) = true := h
    simp only [Bool.and_eq_true] at h'
    obtain ⟨⟨⟨⟨_, h1⟩, _⟩, _⟩, h2⟩ := h'
    obtain ⟨e1, e2⟩ := PyFlat.put_calls _ _ _ e
    have ew : raw.map PyVbbraf.whole = raw := (List.map_congr_left (g := id) fun c hc => whole_id (kinds (e2 c hc))).trans (List.map_id _)
    have ea : PyVbbraf.answers ns = PyFlat.told (PyFlat.played Vbbraf.stepRows Vbbraf.start raw) := by
      unfold PyVbbraf.answers PyVbbraf.calls
      rw [e]
      show PyFlat.told (PyFlat.played VbbrafNeutral.step VbbrafNeutral.start (raw.map PyVbbraf.whole)) = _
      rw [ew]
      rfl
    rw [ea] at h2
    have n1 : raw.length ≤ 100 := of_decide_eq_true h1
    have n2 := of_decide_eq_true h2
    exact ⟨raw, e1, e2, by omega, n2, ea⟩
end Lt
open PySem PySem.W PyProof.Rows
set_option maxRecDepth 100000 in
set_option maxHeartbeats 8000000 in
theorem PySem.Challenge.cw_lasttricksdesk_s01_answers_holds : PySem.Challenge.rw_lasttricksdesk_s01_answers.Holds := by
  w_on; k_headS; (case hw => exact ⟨[.list [.int 2]], by decide +kernel, by decide +kernel⟩)
  k_fillS
  refine L2.walk_specK (r := PySem.Challenge.rw_lasttricksdesk_s01_answers) (k := 64) (CX := L2.CX0) (ps := ["calls"]) (sp := Lt.sp_answers) (by decide +kernel) rfl rfl ⟨rfl, by decide, by decide⟩ (fun w h Y => PySem.W.kIn_of Y) ?F ?S (fun _ _ _ _ z => z)
  case F =>
    intro w mg fa h Y KX G hmg
    refine' Lt.facts_of (mg := mg) KX ?zf ?zk
    case zf =>
      refine' Lt.facts_mk ?aR ?aP ?aV ?aA ?aS ?aE ?aC ?zg
      (case aR => k_is)
      (case aP => k_is)
      (case aV => k_is)
      (case aA => k_is)
      (case aS => k_is)
      (case aE => k_is)
      (case aC => k_is)
      case zg =>
        refine' { T := ?T, R := ?R, d_allow := ?d_allow, d_Position_init := ?d_Position_init, d_suit_of := ?d_suit_of, d_side_of := ?d_side_of, d_seat_on_turn := ?d_seat_on_turn, d_hand_on_turn := ?d_hand_on_turn, d_playable := ?d_playable, d_cards_left := ?d_cards_left, d_tricks_left := ?d_tricks_left, d_beats := ?d_beats, d_winning_seat := ?d_winning_seat, d_hands_without := ?d_hands_without, d_position_after := ?d_position_after, d_side_of_trick := ?d_side_of_trick, d_tricks_of_side_0 := ?d_tricks_of_side_0, d_Valuer_init := ?d_Valuer_init, d_Valuer_value := ?d_Valuer_value, d_Valuer_value_by := ?d_Valuer_value_by, d_Valuer_best_value := ?d_Valuer_best_value, d_Valuer_gift := ?d_Valuer_gift, d_Valuer_least_keeping := ?d_Valuer_least_keeping, d_Valuer_best_line := ?d_Valuer_best_line, d_Account_init := ?d_Account_init, d_Account_as_numbers := ?d_Account_as_numbers, d_account_of := ?d_account_of, d_State_init := ?d_State_init, d_Ending_init := ?d_Ending_init, d_Ending_dealt := ?d_Ending_dealt, d_Ending_present := ?d_Ending_present, d_Ending_won_now := ?d_Ending_won_now, d_allow_card := ?d_allow_card, d_allow_cards := ?d_allow_cards, d_told_cards := ?d_told_cards, d_turn_numbers := ?d_turn_numbers, d_are_unlike := ?d_are_unlike, d_deal := ?d_deal, d_won_after := ?d_won_after, d_play := ?d_play, d_back := ?d_back, d_turn := ?d_turn, d_value := ?d_value, d_cards_with_values := ?d_cards_with_values, d_line := ?d_line, d_account := ?d_account, d_past := ?d_past, d_table := ?d_table, d_cards_elsewhere := ?d_cards_elsewhere, d_is_one_between := ?d_is_one_between, d_alike := ?d_alike, d_squeezed_card := ?d_squeezed_card, d_squeezed := ?d_squeezed, d_truth := ?d_truth, d_can := ?d_can, d_told := ?d_told, d_Call_init := ?d_Call_init, d_calls_of := ?d_calls_of, d_answer_with_arguments := ?d_answer_with_arguments, d_answer_without_arguments := ?d_answer_without_arguments, d_answer := ?d_answer, d_answers := ?d_answers }
        (case R => (refine' Lt.dnr_mk ?a ?t ?l ?c ?k; (case a => k_is); (case t => k_is); (case l => k_is); (case c => k_is); (case k => k_is)))
        (case d_allow => (refine' Lt.dn_mk KX G ?a ?l ?c ?k; (case a => k_is); (case l => k_is); (case c => k_is); (case k => k_is)))
        (case d_Position_init => (refine' Lt.dnk_mk KX G ?z ?m ?y ?a ?i ?l ?c ?k; (case z => k_is); (case m => k_is); (case y => k_is); (case a => k_is); (case i => k_is); (case l => k_is); (case c => k_is); (case k => k_is)))
        (case d_suit_of => (refine' Lt.dn_mk KX G ?a ?l ?c ?k; (case a => k_is); (case l => k_is); (case c => k_is); (case k => k_is)))
        (case d_side_of => (refine' Lt.dn_mk KX G ?a ?l ?c ?k; (case a => k_is); (case l => k_is); (case c => k_is); (case k => k_is)))
        (case d_seat_on_turn => (refine' Lt.dn_mk KX G ?a ?l ?c ?k; (case a => k_is); (case l => k_is); (case c => k_is); (case k => k_is)))
        (case d_hand_on_turn => (refine' Lt.dn_mk KX G ?a ?l ?c ?k; (case a => k_is); (case l => k_is); (case c => k_is); (case k => k_is)))
        (case d_playable => (refine' Lt.dn_mk KX G ?a ?l ?c ?k; (case a => k_is); (case l => k_is); (case c => k_is); (case k => k_is)))
        (case d_cards_left => (refine' Lt.dn_mk KX G ?a ?l ?c ?k; (case a => k_is); (case l => k_is); (case c => k_is); (case k => k_is)))
        (case d_tricks_left => (refine' Lt.dn_mk KX G ?a ?l ?c ?k; (case a => k_is); (case l => k_is); (case c => k_is); (case k => k_is)))
        (case d_beats => (refine' Lt.dn_mk KX G ?a ?l ?c ?k; (case a => k_is); (case l => k_is); (case c => k_is); (case k => k_is)))
        (case d_winning_seat => (refine' Lt.dn_mk KX G ?a ?l ?c ?k; (case a => k_is); (case l => k_is); (case c => k_is); (case k => k_is)))
        (case d_hands_without => (refine' Lt.dn_mk KX G ?a ?l ?c ?k; (case a => k_is); (case l => k_is); (case c => k_is); (case k => k_is)))
        (case d_position_after => (refine' Lt.dn_mk KX G ?a ?l ?c ?k; (case a => k_is); (case l => k_is); (case c => k_is); (case k => k_is)))
        (case d_side_of_trick => (refine' Lt.dn_mk KX G ?a ?l ?c ?k; (case a => k_is); (case l => k_is); (case c => k_is); (case k => k_is)))
        (case d_tricks_of_side_0 => (refine' Lt.dn_mk KX G ?a ?l ?c ?k; (case a => k_is); (case l => k_is); (case c => k_is); (case k => k_is)))
        (case d_Valuer_init => (refine' Lt.dnk_mk KX G ?z ?m ?y ?a ?i ?l ?c ?k; (case z => k_is); (case m => k_is); (case y => k_is); (case a => k_is); (case i => k_is); (case l => k_is); (case c => k_is); (case k => k_is)))
        (case d_Valuer_value => (refine' Lt.dnm_mk ?qcl ?a ?i ?l ?c ?k; (case qcl => (refine' Lt.cls_mk ?pg ?hd ?po ?sa; (case pg => k_is); (case hd => k_is); (case po => k_is); (case sa => k_is))); (case a => k_is); (case i => k_is); (case l => k_is); (case c => k_is); (case k => k_is)))
        (case d_Valuer_value_by => (refine' Lt.dnm_mk ?qcl ?a ?i ?l ?c ?k; (case qcl => (refine' Lt.cls_mk ?pg ?hd ?po ?sa; (case pg => k_is); (case hd => k_is); (case po => k_is); (case sa => k_is))); (case a => k_is); (case i => k_is); (case l => k_is); (case c => k_is); (case k => k_is)))
        (case d_Valuer_best_value => (refine' Lt.dnm_mk ?qcl ?a ?i ?l ?c ?k; (case qcl => (refine' Lt.cls_mk ?pg ?hd ?po ?sa; (case pg => k_is); (case hd => k_is); (case po => k_is); (case sa => k_is))); (case a => k_is); (case i => k_is); (case l => k_is); (case c => k_is); (case k => k_is)))
        (case d_Valuer_gift => (refine' Lt.dnm_mk ?qcl ?a ?i ?l ?c ?k; (case qcl => (refine' Lt.cls_mk ?pg ?hd ?po ?sa; (case pg => k_is); (case hd => k_is); (case po => k_is); (case sa => k_is))); (case a => k_is); (case i => k_is); (case l => k_is); (case c => k_is); (case k => k_is)))
        (case d_Valuer_least_keeping => (refine' Lt.dnm_mk ?qcl ?a ?i ?l ?c ?k; (case qcl => (refine' Lt.cls_mk ?pg ?hd ?po ?sa; (case pg => k_is); (case hd => k_is); (case po => k_is); (case sa => k_is))); (case a => k_is); (case i => k_is); (case l => k_is); (case c => k_is); (case k => k_is)))
        (case d_Valuer_best_line => (refine' Lt.dnm_mk ?qcl ?a ?i ?l ?c ?k; (case qcl => (refine' Lt.cls_mk ?pg ?hd ?po ?sa; (case pg => k_is); (case hd => k_is); (case po => k_is); (case sa => k_is))); (case a => k_is); (case i => k_is); (case l => k_is); (case c => k_is); (case k => k_is)))
        (case d_Account_init => (refine' Lt.dnk_mk KX G ?z ?m ?y ?a ?i ?l ?c ?k; (case z => k_is); (case m => k_is); (case y => k_is); (case a => k_is); (case i => k_is); (case l => k_is); (case c => k_is); (case k => k_is)))
        (case d_Account_as_numbers => (refine' Lt.dnm_mk ?qcl ?a ?i ?l ?c ?k; (case qcl => (refine' Lt.cls_mk ?pg ?hd ?po ?sa; (case pg => k_is); (case hd => k_is); (case po => k_is); (case sa => k_is))); (case a => k_is); (case i => k_is); (case l => k_is); (case c => k_is); (case k => k_is)))
        (case d_account_of => (refine' Lt.dn_mk KX G ?a ?l ?c ?k; (case a => k_is); (case l => k_is); (case c => k_is); (case k => k_is)))
        (case d_State_init => (refine' Lt.dnk_mk KX G ?z ?m ?y ?a ?i ?l ?c ?k; (case z => k_is); (case m => k_is); (case y => k_is); (case a => k_is); (case i => k_is); (case l => k_is); (case c => k_is); (case k => k_is)))
        (case d_Ending_init => (refine' Lt.dnk_mk KX G ?z ?m ?y ?a ?i ?l ?c ?k; (case z => k_is); (case m => k_is); (case y => k_is); (case a => k_is); (case i => k_is); (case l => k_is); (case c => k_is); (case k => k_is)))
        (case d_Ending_dealt => (refine' Lt.dnm_mk ?qcl ?a ?i ?l ?c ?k; (case qcl => (refine' Lt.cls_mk ?pg ?hd ?po ?sa; (case pg => k_is); (case hd => k_is); (case po => k_is); (case sa => k_is))); (case a => k_is); (case i => k_is); (case l => k_is); (case c => k_is); (case k => k_is)))
        (case d_Ending_present => (refine' Lt.dnm_mk ?qcl ?a ?i ?l ?c ?k; (case qcl => (refine' Lt.cls_mk ?pg ?hd ?po ?sa; (case pg => k_is); (case hd => k_is); (case po => k_is); (case sa => k_is))); (case a => k_is); (case i => k_is); (case l => k_is); (case c => k_is); (case k => k_is)))
        (case d_Ending_won_now => (refine' Lt.dnm_mk ?qcl ?a ?i ?l ?c ?k; (case qcl => (refine' Lt.cls_mk ?pg ?hd ?po ?sa; (case pg => k_is); (case hd => k_is); (case po => k_is); (case sa => k_is))); (case a => k_is); (case i => k_is); (case l => k_is); (case c => k_is); (case k => k_is)))
        (case d_allow_card => (refine' Lt.dn_mk KX G ?a ?l ?c ?k; (case a => k_is); (case l => k_is); (case c => k_is); (case k => k_is)))
        (case d_allow_cards => (refine' Lt.dn_mk KX G ?a ?l ?c ?k; (case a => k_is); (case l => k_is); (case c => k_is); (case k => k_is)))
        (case d_told_cards => (refine' Lt.dn_mk KX G ?a ?l ?c ?k; (case a => k_is); (case l => k_is); (case c => k_is); (case k => k_is)))
        (case d_turn_numbers => (refine' Lt.dn_mk KX G ?a ?l ?c ?k; (case a => k_is); (case l => k_is); (case c => k_is); (case k => k_is)))
        (case d_are_unlike => (refine' Lt.dn_mk KX G ?a ?l ?c ?k; (case a => k_is); (case l => k_is); (case c => k_is); (case k => k_is)))
        (case d_deal => (refine' Lt.dn_mk KX G ?a ?l ?c ?k; (case a => k_is); (case l => k_is); (case c => k_is); (case k => k_is)))
        (case d_won_after => (refine' Lt.dn_mk KX G ?a ?l ?c ?k; (case a => k_is); (case l => k_is); (case c => k_is); (case k => k_is)))
        (case d_play => (refine' Lt.dn_mk KX G ?a ?l ?c ?k; (case a => k_is); (case l => k_is); (case c => k_is); (case k => k_is)))
        (case d_back => (refine' Lt.dn_mk KX G ?a ?l ?c ?k; (case a => k_is); (case l => k_is); (case c => k_is); (case k => k_is)))
        (case d_turn => (refine' Lt.dn_mk KX G ?a ?l ?c ?k; (case a => k_is); (case l => k_is); (case c => k_is); (case k => k_is)))
        (case d_value => (refine' Lt.dn_mk KX G ?a ?l ?c ?k; (case a => k_is); (case l => k_is); (case c => k_is); (case k => k_is)))
        (case d_cards_with_values => (refine' Lt.dn_mk KX G ?a ?l ?c ?k; (case a => k_is); (case l => k_is); (case c => k_is); (case k => k_is)))
        (case d_line => (refine' Lt.dn_mk KX G ?a ?l ?c ?k; (case a => k_is); (case l => k_is); (case c => k_is); (case k => k_is)))
        (case d_account => (refine' Lt.dn_mk KX G ?a ?l ?c ?k; (case a => k_is); (case l => k_is); (case c => k_is); (case k => k_is)))
        (case d_past => (refine' Lt.dn_mk KX G ?a ?l ?c ?k; (case a => k_is); (case l => k_is); (case c => k_is); (case k => k_is)))
        (case d_table => (refine' Lt.dn_mk KX G ?a ?l ?c ?k; (case a => k_is); (case l => k_is); (case c => k_is); (case k => k_is)))
        (case d_cards_elsewhere => (refine' Lt.dn_mk KX G ?a ?l ?c ?k; (case a => k_is); (case l => k_is); (case c => k_is); (case k => k_is)))
        (case d_is_one_between => (refine' Lt.dn_mk KX G ?a ?l ?c ?k; (case a => k_is); (case l => k_is); (case c => k_is); (case k => k_is)))
        (case d_alike => (refine' Lt.dn_mk KX G ?a ?l ?c ?k; (case a => k_is); (case l => k_is); (case c => k_is); (case k => k_is)))
        (case d_squeezed_card => (refine' Lt.dn_mk KX G ?a ?l ?c ?k; (case a => k_is); (case l => k_is); (case c => k_is); (case k => k_is)))
        (case d_squeezed => (refine' Lt.dn_mk KX G ?a ?l ?c ?k; (case a => k_is); (case l => k_is); (case c => k_is); (case k => k_is)))
        (case d_truth => (refine' Lt.dn_mk KX G ?a ?l ?c ?k; (case a => k_is); (case l => k_is); (case c => k_is); (case k => k_is)))
        (case d_can => (refine' Lt.dn_mk KX G ?a ?l ?c ?k; (case a => k_is); (case l => k_is); (case c => k_is); (case k => k_is)))
        (case d_told => (refine' Lt.dn_mk KX G ?a ?l ?c ?k; (case a => k_is); (case l => k_is); (case c => k_is); (case k => k_is)))
        (case d_Call_init => (refine' Lt.dnk_mk KX G ?z ?m ?y ?a ?i ?l ?c ?k; (case z => k_is); (case m => k_is); (case y => k_is); (case a => k_is); (case i => k_is); (case l => k_is); (case c => k_is); (case k => k_is)))
        (case d_calls_of => (refine' Lt.dn_mk KX G ?a ?l ?c ?k; (case a => k_is); (case l => k_is); (case c => k_is); (case k => k_is)))
        (case d_answer_with_arguments => (refine' Lt.dn_mk KX G ?a ?l ?c ?k; (case a => k_is); (case l => k_is); (case c => k_is); (case k => k_is)))
        (case d_answer_without_arguments => (refine' Lt.dn_mk KX G ?a ?l ?c ?k; (case a => k_is); (case l => k_is); (case c => k_is); (case k => k_is)))
        (case d_answer => (refine' Lt.dn_mk KX G ?a ?l ?c ?k; (case a => k_is); (case l => k_is); (case c => k_is); (case k => k_is)))
        (case d_answers => (refine' Lt.dn_mk KX G ?a ?l ?c ?k; (case a => k_is); (case l => k_is); (case c => k_is); (case k => k_is)))
        case T =>
          refine' { kP := ?kP, kV := ?kV, kA := ?kA, kS := ?kS, kE := ?kE, kC := ?kC, ref := ?ref, gR := ?gR, vE := ?vE, xf := ?xf, noc := ?noc, te := ?te, g_SUIT_LENGTH := ?g_SUIT_LENGTH, g_NO_TRUMP := ?g_NO_TRUMP, g_MOST_IN_HAND := ?g_MOST_IN_HAND, g_MOST_IN_ROW := ?g_MOST_IN_ROW, g_MOST_FOR_TABLE := ?g_MOST_FOR_TABLE, g_LAST_CARD := ?g_LAST_CARD, g_SEATS := ?g_SEATS, g_NUMBER_COUNTS := ?g_NUMBER_COUNTS, g_ROW_COUNTS := ?g_ROW_COUNTS, m_len := ?m_len, m_tuple := ?m_tuple, m_list := ?m_list, m_sum := ?m_sum, m_max := ?m_max, m_min := ?m_min, m_sorted := ?m_sorted, m_set := ?m_set, m_range := ?m_range, m_Exception := ?m_Exception }
          (case kP => (refine' Lt.kl4_mk ?qcl ?h1 ?h2 ?h3 ?h4; (case qcl => (refine' Lt.cls_mk ?pg ?hd ?po ?sa; (case pg => k_is); (case hd => k_is); (case po => k_is); (case sa => k_is))); (case h1 => k_is); (case h2 => k_is); (case h3 => k_is); (case h4 => k_is)))
          (case kV => (refine' Lt.kl1_mk ?qcl ?h1; (case qcl => (refine' Lt.cls_mk ?pg ?hd ?po ?sa; (case pg => k_is); (case hd => k_is); (case po => k_is); (case sa => k_is))); (case h1 => k_is)))
          (case kA => (refine' Lt.kl5_mk ?qcl ?h1 ?h2 ?h3 ?h4 ?h5; (case qcl => (refine' Lt.cls_mk ?pg ?hd ?po ?sa; (case pg => k_is); (case hd => k_is); (case po => k_is); (case sa => k_is))); (case h1 => k_is); (case h2 => k_is); (case h3 => k_is); (case h4 => k_is); (case h5 => k_is)))
          (case kS => (refine' Lt.kl2_mk ?qcl ?h1 ?h2; (case qcl => (refine' Lt.cls_mk ?pg ?hd ?po ?sa; (case pg => k_is); (case hd => k_is); (case po => k_is); (case sa => k_is))); (case h1 => k_is); (case h2 => k_is)))
          (case kE => (refine' Lt.kl3_mk ?qcl ?h1 ?h2 ?h3; (case qcl => (refine' Lt.cls_mk ?pg ?hd ?po ?sa; (case pg => k_is); (case hd => k_is); (case po => k_is); (case sa => k_is))); (case h1 => k_is); (case h2 => k_is); (case h3 => k_is)))
          (case kC => (refine' Lt.kl3_mk ?qcl ?h1 ?h2 ?h3; (case qcl => (refine' Lt.cls_mk ?pg ?hd ?po ?sa; (case pg => k_is); (case hd => k_is); (case po => k_is); (case sa => k_is))); (case h1 => k_is); (case h2 => k_is); (case h3 => k_is)))
          (case ref => (refine' Lt.ref_mk ?x ?sa ?e ?t ?k; (case x => k_is); (case sa => k_is); (case e => k_is); (case t => k_is); (case k => k_is)))
          (case gR => (refine' PySem.W.mg_of KX G ?z; (case z => k_is)))
          (case vE => k_is)
          (case xf => (refine' ⟨?ga, ?gg, ?ex, ?hd⟩; (case ga => k_is); (case gg => k_is); (case ex => k_is); (case hd => k_is)))
          (case noc => k_is)
          (case te => (refine' Lt.exm_self ?h1 ?h2 ?h3 ?h4; (case h1 => k_is); (case h2 => k_is); (case h3 => k_is); (case h4 => first | rfl | k_is)))
          (case g_SUIT_LENGTH => (refine' Lt.gi_mk KX G ?z; (case z => k_is)))
          (case g_NO_TRUMP => (refine' Lt.gi_mk KX G ?z; (case z => k_is)))
          (case g_MOST_IN_HAND => (refine' Lt.gi_mk KX G ?z; (case z => k_is)))
          (case g_MOST_IN_ROW => (refine' Lt.gi_mk KX G ?z; (case z => k_is)))
          (case g_MOST_FOR_TABLE => (refine' Lt.gi_mk KX G ?z; (case z => k_is)))
          (case g_LAST_CARD => (refine' Lt.gi_mk KX G ?z; (case z => k_is)))
          (case g_SEATS => (refine' Lt.gt4_mk KX G ?z ?l; (case z => k_is); (case l => k_is)))
          (case g_NUMBER_COUNTS => (refine' Lt.gt14_mk KX G ?z ?l; (case z => k_is); (case l => k_is)))
          (case g_ROW_COUNTS => (refine' Lt.gt14_mk KX G ?z ?l; (case z => k_is); (case l => k_is)))
          (case m_len => (refine' PySem.W.mg_none_of KX G ?z; (case z => k_is)))
          (case m_tuple => (refine' PySem.W.mg_none_of KX G ?z; (case z => k_is)))
          (case m_list => (refine' PySem.W.mg_none_of KX G ?z; (case z => k_is)))
          (case m_sum => (refine' PySem.W.mg_none_of KX G ?z; (case z => k_is)))
          (case m_max => (refine' PySem.W.mg_none_of KX G ?z; (case z => k_is)))
          (case m_min => (refine' PySem.W.mg_none_of KX G ?z; (case z => k_is)))
          (case m_sorted => (refine' PySem.W.mg_none_of KX G ?z; (case z => k_is)))
          (case m_set => (refine' PySem.W.mg_none_of KX G ?z; (case z => k_is)))
          (case m_range => (refine' PySem.W.mg_none_of KX G ?z; (case z => k_is)))
          (case m_Exception => (refine' PySem.W.mg_none_of KX G ?z; (case z => k_is)))
    case zk => exact fun a F => Lt.ans_fn F hmg
  case S =>
    intro K H xs a hO hwi hask hx
    cases hx with
    | cons h1 h2 =>
      cases h2
      cases h1 with
      | lst hs ha =>
        have e := L2.ints_dw a.1 _ ha
        subst e
        obtain ⟨raw, e1, e2, n1, n2, ea⟩ := Lt.due (ns := a.1) hask
        refine ⟨rfl, _, raw, rfl, by rw [← e1]; exact hs, e2, n1, n2, fun r H' hr => ?_⟩
        have q : L2.Dw K H' (.ref r) (.list ((PyVbbraf.answers a.1).map WData.int)) := by
          rw [ea]
          exact .lst (L2.SqL.of hr) (L2.dw_ints _)
        exact q
