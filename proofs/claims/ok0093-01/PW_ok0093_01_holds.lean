import PyProof.Rows.All
import Wide.All
import OpenK.AllK
import Wide.FinOn
import Lean
import PySem.Challenge.RW_ok0093_01
open PySem PySem.W PySem.Calls PyProof.Rows
set_option Elab.async false
set_option maxRecDepth 100000
#guard_msgs (drop all) in
set_option maxHeartbeats 40000 in
open_top hd93 for (PySem.Challenge.rw_ok0093_01).row
set_option maxHeartbeats 8000000
namespace Mine93
noncomputable abbrev hk93 : Hook := kHook hd93.heap_1 [2, 3, 15, 17, 18, 20, 21, 29, 31, 32, 34, 35, 36, 38, 39, 41, 42, 43, 45, 46, 48, 49, 50, 52, 53, 55, 56, 57, 59, 60, 62, 63, 64, 66, 67, 69, 70, 71, 73, 74, 76, 77, 78, 80, 81, 83, 84, 85, 87, 88, 90, 91, 92, 93, 94, 95, 96, 99, 102, 103, 104, 107, 108, 109, 111, 112, 114, 115, 116, 118, 119, 121, 122, 123, 126, 127, 128, 130, 131, 133, 134, 135, 137, 138, 140, 141, 142, 144, 145, 147, 148, 149, 151, 152, 154, 155, 156, 158, 159, 161, 162, 163, 165, 166, 168, 169, 170, 173, 174, 175, 177, 178, 180, 181, 182, 185, 186, 194, 196, 197, 199, 200, 201, 203, 204, 206, 207, 208, 211, 212, 213, 215, 216, 218, 219, 220, 222, 223, 225, 226, 227, 228, 230, 231, 233, 234, 235, 236, 238, 239, 241, 242, 243, 245, 246, 248, 249, 250, 252, 253, 255, 256, 257, 258, 259, 260, 261, 264, 266, 267, 269, 270, 271, 273, 274, 276, 277, 278, 280, 281, 283, 284, 285, 288, 289, 290, 293, 294, 295, 298, 299, 300, 302, 303, 305, 306, 307, 309, 310, 312, 313, 314, 317, 318] (fun _ => by kernel_rfl)
theorem hl93 : LeftO (OpenRow.toRowW (OpenLaw.row PySem.Challenge.rw_ok0093_01)).prog hd93.view_1 [] (fun s => xlAt hd93.view_1 [] s && recOk (RowW.records (OpenRow.toRowW (OpenLaw.row PySem.Challenge.rw_ok0093_01))) s) (Hook.obs hk93) (Hook.val hk93) 3590 := by
  intro w
  unfold openEnds fencedOpening topFrom
  first
    | rw [PySem.W.Fast.te10274390034422433532, PySem.W.Fast.te14289696077712309145, PySem.W.Fast.te14082659384304107361, PySem.W.Fast.te14364793385576792824, PySem.W.Fast.te4187177175401517315]
    | skip
  kernel_rfl
end Mine93
set_option maxHeartbeats 8000000
namespace Mine93
theorem fillme (w : World) (h : Heap) (X : (hd93.heap_1 w.params).In h) (hz : PySem.Challenge.rw_ok0093_01 = PySem.Challenge.rw_ok0093_01) : (hd93.heap_1 w.params).In h ∧ PySem.Challenge.rw_ok0093_01 = PySem.Challenge.rw_ok0093_01 := by
  k_fill
  exact ⟨X, hz⟩
end Mine93
local macro_rules | `(tactic| walk_at $s:str) => `(tactic| k_extra $s)
local macro_rules | `(tactic| k_ne) => `(tactic| k_extra "k_ne")
local macro_rules | `(tactic| k_all) => `(tactic| k_extra "k_all")
local macro_rules | `(tactic| k_mem) => `(tactic| k_extra "k_mem")
local macro_rules | `(tactic| ktr_room) => `(tactic| k_extra "room")
local macro_rules | `(tactic| ktr_units) => `(tactic| k_extra "units")
local macro_rules | `(tactic| k_room) => `(tactic| ktr_room)
local macro_rules | `(tactic| k_units) => `(tactic| ktr_units)
theorem Mine93.kwTop : True := by
  w_top off
  trivial
-- H2
namespace Mine93
theorem wellsaid93 : PySem.Challenge.rw_ok0093_01.wellSaid = true := by kernel_rfl
end Mine93
-- Base93q
namespace Mine93
theorem room1 {d c l : Nat} (h : d + c < l) : d < l := Nat.lt_of_le_of_lt (Nat.le_add_right d c) h
theorem room2 {d a b c l : Nat} (h : d + c < l) (e : a + b ≤ c) : d + a + b < l := Nat.lt_of_le_of_lt (by rw [Nat.add_assoc]; exact Nat.add_le_add_left e d) h
theorem room3 {d a c l : Nat} (h : d + c < l) (e : a ≤ c) : d + a < l := Nat.lt_of_le_of_lt (Nat.add_le_add_left e d) h

/-! a kind of keys: a text or an int -/
def siIs : Str ⊕ Int → Value → Bool
  | .inl x, v => Value.isStrOf x v
  | .inr n, v => Value.isInt n v

theorem siIs_str {x : Str} {t : Tok} : siIs (.inl x) (.str x t) = true := by simp [siIs, Value.isStrOf]
theorem siIs_int {n : Int} {t : Tok} : siIs (.inr n) (.int n t) = true := by simp [siIs, Value.isInt]

def siKind (prog : Program) (w : World) : KeyKind prog w (Str ⊕ Int) where
  is := siIs
  hash := fun | .inl x => hashStr w x | .inr n => hashInt n
  inj := fun v a b ha hb => by
    cases a with
    | inl x =>
      obtain ⟨t, rfl⟩ := Value.isStrOf_shape ha
      cases b with
      | inl y => have hb : Value.isStrOf y (.str x t) = true := hb; obtain ⟨u, e⟩ := Value.isStrOf_shape hb; cases e; rfl
      | inr y => have hb : Value.isInt y (.str x t) = true := hb; obtain ⟨u, e⟩ := Value.isInt_shape hb; cases e
    | inr x =>
      obtain ⟨t, rfl⟩ := Value.isInt_shape ha
      cases b with
      | inl y => have hb : Value.isStrOf y (.int x t) = true := hb; obtain ⟨u, e⟩ := Value.isStrOf_shape hb; cases e
      | inr y => have hb : Value.isInt y (.int x t) = true := hb; obtain ⟨u, e⟩ := Value.isInt_shape hb; cases e; rfl
  byValue := fun k v h => by
    cases k with
    | inl x => obtain ⟨t, rfl⟩ := Value.isStrOf_shape h; rfl
    | inr x => obtain ⟨t, rfl⟩ := Value.isInt_shape h; rfl
  pyHash := fun {A E s k v Q} hv h => by
    cases k with
    | inl x => obtain ⟨t, rfl⟩ := Value.isStrOf_shape hv; exact wpAny_pyHash_str h
    | inr x => obtain ⟨t, rfl⟩ := Value.isInt_shape hv; exact wpAny_pyHash_int h
  eqBool := fun {A E s a b u v Q} hu hv h => by
    cases a with
    | inl x =>
      obtain ⟨t, rfl⟩ := Value.isStrOf_shape hu
      cases b with
      | inl y =>
        obtain ⟨t', rfl⟩ := Value.isStrOf_shape hv
        refine wpAny_eqBool_str ?_
        have e : decide ((Sum.inl x : Str ⊕ Int) = Sum.inl y) = decide (x = y) := by simp
        rwa [e] at h
      | inr y =>
        obtain ⟨t', rfl⟩ := Value.isInt_shape hv
        refine PySem.SeqAt.EqAt.str_int _ _ _ _ _ _ _ _ ?_
        have e : decide ((Sum.inl x : Str ⊕ Int) = Sum.inr y) = false := by simp
        rwa [e] at h
    | inr x =>
      obtain ⟨t, rfl⟩ := Value.isInt_shape hu
      cases b with
      | inl y =>
        obtain ⟨t', rfl⟩ := Value.isStrOf_shape hv
        refine PySem.SeqAt.EqAt.int_str _ _ _ _ _ _ _ _ ?_
        have e : decide ((Sum.inr x : Str ⊕ Int) = Sum.inl y) = false := by simp
        rwa [e] at h
      | inr y =>
        obtain ⟨t', rfl⟩ := Value.isInt_shape hv
        refine wpAny_eqBool_int ?_
        have e : decide ((Sum.inr x : Str ⊕ Int) = Sum.inr y) = (x == y) := by by_cases hxy : x = y <;> simp [hxy]
        rwa [e] at h
  «strs» := fun k x t v h => by
    cases k with
    | inl y =>
      have h : Value.isStrOf y (.str x t) = true := h
      obtain ⟨u, hu⟩ := Value.isStrOf_shape h
      injection hu with hx
      subst hx
      cases v <;> rfl
    | inr y =>
      have h : Value.isInt y (.str x t) = true := h
      obtain ⟨u, hu⟩ := Value.isInt_shape h; cases hu

abbrev tupOf (vs : List Value) : Obj := { cls := .type "tuple", data := .seq vs.toArray }

theorem isTupleKey_of {prog : Program} {w : World} {h : Heap} {a : Addr} {vs : List Value} {k : List (Str ⊕ Int)} (e : h.get? a = some (tupOf vs)) (hi : PySem.ItemsAre (siKind prog w) k vs) :
    (tupleKind (siKind prog w)).is h k a := ⟨_, _, _, e, rfl, rfl, by simpa using hi⟩

theorem items3 {prog : Program} {w : World} {x : Str} {t ta tb : Tok} {a b : Int} : PySem.ItemsAre (siKind prog w) [.inl x, .inr a, .inr b] [.str x t, .int a ta, .int b tb] :=
  .cons (siIs_str (t := t)) (.cons (siIs_int (t := ta)) (.cons (siIs_int (t := tb)) .nil))
theorem items4 {prog : Program} {w : World} {x : Str} {t ta tb tc : Tok} {a b c : Int} : PySem.ItemsAre (siKind prog w) [.inl x, .inr a, .inr b, .inr c] [.str x t, .int a ta, .int b tb, .int c tc] :=
  .cons (siIs_str (t := t)) (.cons (siIs_int (t := ta)) (.cons (siIs_int (t := tb)) (.cons (siIs_int (t := tc)) .nil)))

/-! the gates' kinds -/
inductive Kd | inv | and | or | xor | mux
deriving DecidableEq

def Kd.name : Kd → Str
  | .inv => Str.ofString "not" | .and => Str.ofString "and" | .or => Str.ofString "or" | .xor => Str.ofString "xor" | .mux => Str.ofString "mux"

abbrev RF := Nat → Bool

def Kd.sem : Kd → List RF → RF
  | .inv, [f] => fun i => !f i
  | .and, [f, g] => fun i => f i && g i
  | .or, [f, g] => fun i => f i || g i
  | .xor, [f, g] => fun i => f i != g i
  | .mux, [s, a, b] => fun i => if s i then b i else a i
  | _, _ => fun _ => false

def Kd.arity : Kd → Nat
  | .inv => 1 | .and => 2 | .or => 2 | .xor => 2 | .mux => 3

abbrev fF : RF := fun _ => false
abbrev fT : RF := fun _ => true

structure Cell where
  kd : Kd
  kt : Tok
  out : Int
  ot : Tok
  ins : List (Int × Tok)
  at_ : Addr
  insAt : Addr

abbrev ivals (l : List (Int × Tok)) : List Value := l.map fun p => Value.int p.1 p.2

structure NA where
  dN : Addr
  N : Addr
  I : Addr
  O : Addr
  C : Addr
  dG : Addr
  G : Addr
  M : Addr
  P : Addr
  t1 : Tok
  t2 : Tok
  t3 : Tok
  t4 : Tok
  t5 : Tok
  g1 : Tok
  g2 : Tok
  g3 : Tok
  nm : Value
  kept : List (Addr × Obj)

abbrev ke (P : Params) (x : Str) (t : Tok) (v : Value) : DictEntry := { hash := PyData.keyHash P x, key := .str x t, val := v }

abbrev netD (P : Params) (A : NA) (c : Int) (tc : Tok) : Obj := dictOf [
  { hash := PyData.keyHash P (Str.ofString "name"), key := .str (Str.ofString "name") A.t1, val := A.nm },
  { hash := PyData.keyHash P (Str.ofString "count"), key := .str (Str.ofString "count") A.t2, val := .int c tc },
  { hash := PyData.keyHash P (Str.ofString "inputs"), key := .str (Str.ofString "inputs") A.t3, val := .ref A.I },
  { hash := PyData.keyHash P (Str.ofString "outputs"), key := .str (Str.ofString "outputs") A.t4, val := .ref A.O },
  { hash := PyData.keyHash P (Str.ofString "cells"), key := .str (Str.ofString "cells") A.t5, val := .ref A.C }] 5

abbrev gatD (P : Params) (A : NA) : Obj := dictOf [
  { hash := PyData.keyHash P (Str.ofString "netlist"), key := .str (Str.ofString "netlist") A.g1, val := .ref A.N },
  { hash := PyData.keyHash P (Str.ofString "made"), key := .str (Str.ofString "made") A.g2, val := .ref A.M },
  { hash := PyData.keyHash P (Str.ofString "opposite"), key := .str (Str.ofString "opposite") A.g3, val := .ref A.P }] 3

abbrev fixed (P : Params) (A : NA) (c : Int) (tc : Tok) (oC oM oP : Obj) (tl : List (Addr × Obj)) : List (Addr × Obj) :=
  (A.N, instObj 259 A.dN) :: (A.dN, netD P A c tc) :: (A.G, instObj 94 A.dG) :: (A.dG, gatD P A) :: (A.C, oC) :: (A.M, oM) :: (A.P, oP) :: tl

abbrev MKey := List (Str ⊕ Int)

def MadeOf (prog : Program) (w : World) (oM : Obj) (made : List (MKey × Addr × Value)) (T : List (Addr × Obj)) : Prop :=
  oM.ExactDict ∧ (∃ es ep, oM.data = .dict es ep ∧ es.toList = made.map (entryOfKey (tupleKind (siKind prog w)))) ∧ (made.map (·.1)).Nodup ∧
  ∀ x ∈ made, ∃ vs, (x.2.1, tupOf vs) ∈ T ∧ PySem.ItemsAre (siKind prog w) x.1 vs

theorem MadeOf.dict {prog : Program} {w : World} {h₀ h : Heap} {L d : Addr} {oM : Obj} {made : List (MKey × Addr × Value)} {T news : List (Addr × Obj)} (M : MadeOf prog w oM made T) (N : News h₀ L h news)
    (hd : (d, oM) ∈ news) (hT : ∀ p ∈ T, p ∈ news) : h.DictOfH (tupleKind (siKind prog w)) d made := by
  obtain ⟨m1, ⟨es, ep, m2, m3⟩, m4, m5⟩ := M
  refine ⟨oM, es, ep, (N _ hd).1, m1, m2, m3, fun x hx => ?_, m4⟩
  obtain ⟨vs, h1, h2⟩ := m5 x hx
  exact isTupleKey_of (N _ (hT _ h1)).1 h2

theorem MadeOf.mono {prog : Program} {w : World} {oM : Obj} {made : List (MKey × Addr × Value)} {T T' : List (Addr × Obj)} (M : MadeOf prog w oM made T) (hT : ∀ p ∈ T, p ∈ T') : MadeOf prog w oM made T' :=
  ⟨M.1, M.2.1, M.2.2.1, fun x hx => let ⟨vs, a, b⟩ := M.2.2.2 x hx; ⟨vs, hT _ a, b⟩⟩

theorem atKey_snoc {made : List (MKey × Addr × Value)} {k : MKey} {ka : Addr} {v : Value} (h : atKey made k = none) : atKey (made ++ [(k, ka, v)]) k = some (ka, v) := by
  unfold atKey at h ⊢
  rw [List.find?_append]
  cases hf : made.find? (fun x => decide (x.1 = k)) with
  | some p => rw [hf] at h; cases h
  | none => simp

section
variable {prog : Program} {w : World} {A : Around} {E : Value → Shared → Prop} {s : Shared} {h₀ : Heap} {L d ka : Addr} {m : Str → Option Value} {news T : List (Addr × Obj)} {oM : Obj} {made : List (MKey × Addr × Value)} {vs : List Value} {k : MKey}

theorem notin_made {Q : Value → Shared → Prop} (N : News h₀ L s.heap news) (hd : (d, oM) ∈ news) (hk : (ka, tupOf vs) ∈ news) (M : MadeOf prog w oM made T) (hT : ∀ p ∈ T, p ∈ news) (hi : PySem.ItemsAre (siKind prog w) k vs)
    (lo : (d == sysModules) = false) (hu : A.units + 1 < cLine) (h : ∀ tk, Q (.bool (!(atKey made k).isSome)) { s with toks := tk }) : wpAny (model prog w) A (compareOp .NotIn (.ref ka) (.ref d)) Q E s := by
  have hD := M.dict N hd hT
  have hin : wpAny (model prog w) A (contains (.ref d) (.ref ka)) (fun b s' => Q (.bool (!b)) s') E s := by
    unfold contains
    try with_reducible refine wpAny_holding ?_
    refine wpAny_bind (wpAny_specialOf hD.typeIs slot_dict_contains.lookup ?_)
    show wpAny _ _ (if (some (Value.builtin "dict.__contains__") == some Value.none) = true then _ else _) _ E s
    rw [if_neg (by rw [beq_builtin_none]; exact Bool.false_ne_true)]
    refine wpAny_bind (wpAny_callSpecialUnlessNone?_slot (name := Str.ofString "__contains__") hD.typeIs slot_dict_contains
      (wpAny_call_entry slot_dict_contains hD.typeIs entry_dict_contains ?_ (args_dict_contains _ _)))
    show wpAny _ _ (dictGet d (.ref ka) >>= _) _ _ s
    refine wpAny_bind (wpAny_dictGet_heap (knd := tupleKind (siKind prog w)) (k := k) (tupleKind_room_in1 hu) (isTupleKey_of (N _ hk).1 hi) hD ?_)
    have h := h (s.toks + (tupleKind (siKind prog w)).draws k)
    cases hf : atKey made k with
    | some p =>
      rw [hf] at h
      show wpAny _ _ (ret (.bool true)) _ _ _
      exact wpAny_pure ⟨_, rfl, wpAny_truthy_bool h⟩
    | none =>
      rw [hf] at h
      show wpAny _ _ (Builtin.Dict.pendingKey? d (.ref ka) >>= _) _ _ _
      exact wpAny_bind (wpAny_pendingKey_other lo (wpAny_pure ⟨_, rfl, wpAny_truthy_bool h⟩))
  show wpAny _ _ (do return .bool (!(← contains (.ref d) (.ref ka)))) Q E s
  exact wpAny_bind (wpAny_mono hin (fun b s' h' => wpAny_pure h') fun _ _ e => e)

theorem get_made {value slice : Expr} {Q : Value → Shared → Prop} (N : News h₀ L s.heap news) (hd : (d, oM) ∈ news) (hk : (ka, tupOf vs) ∈ news) (M : MadeOf prog w oM made T) (hT : ∀ p ∈ T, p ∈ news) (hi : PySem.ItemsAre (siKind prog w) k vs)
    (hu : A.units + 1 < cLine) (hp : (atKey made k).isSome = true) (h : ∀ p tk, atKey made k = some p → Q p.2 { s with toks := tk })
    (hs : subscripted slice false (.ref d) (.ref ka) = operate [.ref d, .ref ka] (getItem (.ref d) (.ref ka)) := by with_unfolding_all rfl) :
    wpAny (model prog w) A (subscriptTail value slice (.ref d) (.ref ka)) Q E s := by
  obtain ⟨p, hp⟩ := Option.isSome_iff_exists.mp hp
  have hD := M.dict N hd hT
  exact tail_any hD.typeIs slot_dict_getitem.lookup (wpAny_getItem_heap (knd := tupleKind (siKind prog w)) (k := k) (tupleKind_room_in1 hu) (isTupleKey_of (N _ hk).1 hi) hD hp (h _ _ hp)) hs

theorem get_made_new {value slice : Expr} {v : Value} {Q : Value → Shared → Prop} (N : News h₀ L s.heap news) (hd : (d, oM) ∈ news) (hk : (ka, tupOf vs) ∈ news) (M : MadeOf prog w oM (made ++ [(k, ka, v)]) T) (hT : ∀ p ∈ T, p ∈ news) (hi : PySem.ItemsAre (siKind prog w) k vs)
    (hu : A.units + 1 < cLine) (hp : (atKey made k).isSome = false) (h : ∀ tk, Q v { s with toks := tk })
    (hs : subscripted slice false (.ref d) (.ref ka) = operate [.ref d, .ref ka] (getItem (.ref d) (.ref ka)) := by with_unfolding_all rfl) :
    wpAny (model prog w) A (subscriptTail value slice (.ref d) (.ref ka)) Q E s := by
  have hD := M.dict N hd hT
  exact tail_any hD.typeIs slot_dict_getitem.lookup (wpAny_getItem_heap (knd := tupleKind (siKind prog w)) (k := k) (tupleKind_room_in1 hu) (isTupleKey_of (N _ hk).1 hi) hD (atKey_snoc (by simpa using hp)) (h _)) hs

theorem set_made {v : Value} {Q : Unit → Shared → Prop} {g : Obj → List (Addr × Obj)} (F : Fr h₀ L s.heap m) (N : News h₀ L s.heap news) (U : UpdF d oM news g) (hk : (ka, tupOf vs) ∈ news) (M : MadeOf prog w oM made T) (hT : ∀ p ∈ T, p ∈ news)
    (hi : PySem.ItemsAre (siKind prog w) k vs) (hu : A.units + 1 < cLine) (hno' : (atKey made k).isSome = false) (hsz : made.length ≤ 100000)
    (h : ∀ h' o' tk, Fr h₀ L h' m → News h₀ L h' (g o') → MadeOf prog w o' (made ++ [(k, ka, v)]) ((ka, tupOf vs) :: T) → Q () { s with heap := h', toks := tk }) :
    wpAny (model prog w) A (setItem (.ref d) (.ref ka) v) Q E s := by
  have hno : atKey made k = none := by simpa using hno'
  obtain ⟨pre, post, rfl, hg, hpre, hpost⟩ := U.split
  have hdm : (d, oM) ∈ pre ++ (d, oM) :: post := List.mem_append_right _ (.head _)
  have hD := M.dict N hdm hT
  have D := N _ hdm
  refine wpAny_setItem_heap (knd := tupleKind (siKind prog w)) (k := k) (tupleKind_room_in1 hu) (isTupleKey_of (N _ hk).1 hi) hD (fun h' hm' hs' => ?_) (hsz := by rw [sizeLine_eq]; omega)
  obtain ⟨o', es, ep, e1, e2, e3, e4, e5, e6⟩ := hm'
  rw [storedH_new hno] at e4 e6
  obtain ⟨oL, les, lep, hL, r⟩ := F.ns
  have hLd : L ≠ d := fun q => D.2.1 q.symm
  have off : ∀ b o, h₀.get? b = some o → b ≠ d := fun b o e q => by rw [q, D.2.2] at e; cases e
  refine h h' o' _ ⟨⟨oL, les, lep, (hs'.2 L hLd).trans hL, r⟩, fun b o e => (hs'.2 b (off b o e)).trans (F.keep b o e), F.above⟩ (hg o' ▸ fun p hp => ?_) ⟨e2, ⟨es, ep, e3, e4⟩, e6, fun x hx => ?_⟩
  · rcases List.mem_append.mp hp with q | q
    · have P := N p (List.mem_append_left _ q); exact ⟨(hs'.2 _ (hpre p q)).trans P.1, P.2⟩
    · rcases List.mem_cons.mp q with rfl | q
      · exact ⟨e1, D.2⟩
      · have P := N p (List.mem_append_right _ (.tail _ q)); exact ⟨(hs'.2 _ (hpost p q)).trans P.1, P.2⟩
  · rcases List.mem_append.mp hx with q | q
    · obtain ⟨vs', a, b⟩ := M.2.2.2 x q; exact ⟨vs', .tail _ a, b⟩
    · rw [List.mem_singleton.mp q]; exact ⟨vs, .head _, hi⟩

variable {P : Addr} {oP : Obj} {ops : List (Int × Value)} {n : Int} {t : Tok}
theorem dictOf_news (N : News h₀ L s.heap news) (hP : (P, oP) ∈ news) (hd : oP.IsDictOf (intKind prog w) ops) : s.heap.DictOf (intKind prog w) P ops := by
  obtain ⟨es, ep, a, b, c, d, e⟩ := hd
  exact ⟨oP, es, ep, (N _ hP).1, a, b, c, d, e⟩

theorem notin_opp {Q : Value → Shared → Prop} (N : News h₀ L s.heap news) (hP : (P, oP) ∈ news) (hd : oP.IsDictOf (intKind prog w) ops) (lo : (P == sysModules) = false)
    (h : ∀ tk, Q (.bool (!(valueAt ops n).isSome)) { s with toks := tk }) : wpAny (model prog w) A (compareOp .NotIn (.int n t) (.ref P)) Q E s := by
  have hD := (dictOf_news (prog := prog) (w := w) N hP hd).mapOf
  have hkey : (intKind prog w).is n (.int n t) = true := by simp [intKind, Value.isInt]
  have hin : wpAny (model prog w) A (contains (.ref P) (.int n t)) (fun b s' => Q (.bool (!b)) s') E s := by
    unfold contains
    try with_reducible refine wpAny_holding ?_
    refine wpAny_bind (wpAny_specialOf hD.typeIs slot_dict_contains.lookup ?_)
    show wpAny _ _ (if (some (Value.builtin "dict.__contains__") == some Value.none) = true then _ else _) _ E s
    rw [if_neg (by rw [beq_builtin_none]; exact Bool.false_ne_true)]
    refine wpAny_bind (wpAny_callSpecialUnlessNone?_slot (name := Str.ofString "__contains__") hD.typeIs slot_dict_contains
      (wpAny_call_entry slot_dict_contains hD.typeIs entry_dict_contains ?_ (args_dict_contains _ _)))
    show wpAny _ _ (dictGet P (.int n t) >>= _) _ _ s
    refine wpAny_bind (wpAny_dictGet_of hkey hD ?_)
    have h := h (s.toks + 1)
    cases hf : valueAt ops n with
    | some v =>
      rw [hf] at h
      show wpAny _ _ (ret (.bool true)) _ _ _
      exact wpAny_pure ⟨_, rfl, wpAny_truthy_bool h⟩
    | none =>
      rw [hf] at h
      show wpAny _ _ (Builtin.Dict.pendingKey? P (.int n t) >>= _) _ _ _
      exact wpAny_bind (wpAny_pendingKey_other lo (wpAny_pure ⟨_, rfl, wpAny_truthy_bool h⟩))
  show wpAny _ _ (do return .bool (!(← contains (.ref P) (.int n t)))) Q E s
  exact wpAny_bind (wpAny_mono hin (fun b s' h' => wpAny_pure h') fun _ _ e => e)

theorem get_opp {value slice : Expr} {Q : Value → Shared → Prop} (N : News h₀ L s.heap news) (hP : (P, oP) ∈ news) (hd : oP.IsDictOf (intKind prog w) ops) (hv : (valueAt ops n).isSome = true)
    (h : ∀ v tk, valueAt ops n = some v → Q v { s with toks := tk })
    (hs : subscripted slice false (.ref P) (.int n t) = operate [.ref P, .int n t] (getItem (.ref P) (.int n t)) := by with_unfolding_all rfl) :
    wpAny (model prog w) A (subscriptTail value slice (.ref P) (.int n t)) Q E s := by
  obtain ⟨v, hv⟩ := Option.isSome_iff_exists.mp hv
  have hD := (dictOf_news (prog := prog) (w := w) N hP hd).mapOf
  exact tail_any hD.typeIs slot_dict_getitem.lookup (wpAny_getItem_of (knd := intKind prog w) (k := n) (by simp [intKind, Value.isInt]) hD hv (h _ _ hv)) hs

theorem valueAt_stored_ne {kvs : List (Int × Value)} {k j : Int} {v : Value} (h : k ≠ j) : valueAt (stored kvs j v) k = valueAt kvs k := by
  unfold stored
  split
  · unfold valueAt
    induction kvs with
    | nil => rfl
    | cons kv r ih =>
      rename_i hany
      rw [List.map_cons, List.find?_cons, List.find?_cons]
      by_cases e : kv.1 = j
      · rw [if_pos e]
        have e2 : ¬ kv.1 = k := fun q => h (q.symm.trans e)
        simp only [decide_eq_false e2]
        by_cases hr : r.any (fun kv => decide (kv.1 = j)) = true
        · exact ih hr
        · have hm : (r.map fun kv => if kv.1 = j then (kv.1, v) else kv) = r := by
            conv => rhs; rw [← List.map_id r]
            refine List.map_congr_left fun x hx => ?_
            have : ¬ x.1 = j := fun q => hr (List.any_eq_true.mpr ⟨x, hx, by simpa using q⟩)
            simp [this]
          rw [hm]
      · rw [if_neg e]
        have hr : r.any (fun kv => decide (kv.1 = j)) = true := by simpa [e] using hany
        by_cases e2 : kv.1 = k
        · simp [e2]
        · simp only [decide_eq_false e2]
          exact ih hr
  · unfold valueAt
    rw [List.find?_append]
    cases hf : kvs.find? (fun kv => decide (kv.1 = k)) with
    | some p => simp
    | none =>
      have : ¬ j = k := fun q => h q.symm
      simp [this]

theorem valueAt_stored_self {kvs : List (Int × Value)} {k : Int} {v : Value} : valueAt (stored kvs k v) k = some v := by
  unfold stored
  split
  · rename_i hany
    unfold valueAt
    induction kvs with
    | nil => simp at hany
    | cons kv r ih =>
      rw [List.map_cons, List.find?_cons]
      by_cases e : kv.1 = k
      · simp [e]
      · have hr : r.any (fun kv => decide (kv.1 = k)) = true := by simpa [e] using hany
        rw [if_neg e]
        simp only [decide_eq_false e]
        exact ih hr
  · rename_i hany
    unfold valueAt
    rw [List.find?_append]
    have hf : kvs.find? (fun kv => decide (kv.1 = k)) = none := by
      rw [List.find?_eq_none]
      intro x hx q
      exact hany (List.any_eq_true.mpr ⟨x, hx, q⟩)
    rw [hf]; simp

theorem get_opp_new {value slice : Expr} {Q : Value → Shared → Prop} {j : Int} {v v' : Value} (N : News h₀ L s.heap news) (hP : (P, oP) ∈ news) (hd : oP.IsDictOf (intKind prog w) (stored (stored ops n v) j v')) (hne : n < j)
    (h : ∀ tk, Q v { s with toks := tk })
    (hs : subscripted slice false (.ref P) (.int n t) = operate [.ref P, .int n t] (getItem (.ref P) (.int n t)) := by with_unfolding_all rfl) :
    wpAny (model prog w) A (subscriptTail value slice (.ref P) (.int n t)) Q E s := by
  have hD := (dictOf_news (prog := prog) (w := w) N hP hd).mapOf
  have hv : valueAt (stored (stored ops n v) j v') n = some v := by rw [valueAt_stored_ne (by omega), valueAt_stored_self]
  exact tail_any hD.typeIs slot_dict_getitem.lookup (wpAny_getItem_of (knd := intKind prog w) (k := n) (by simp [intKind, Value.isInt]) hD hv (h _)) hs

theorem method_opp {pl : Sem Bool} {Q : Value × List Value → Shared → Prop} (N : News h₀ L s.heap news) (hP : (P, oP) ∈ news) (hd : oP.IsDictOf (intKind prog w) ops)
    (h : Q (.builtin "dict.get", [.ref P]) s) : wpAny (model prog w) A (getMethod (.ref P) (Str.ofString "get") pl) Q E s :=
  have hD := dictOf_news (prog := prog) (w := w) N hP hd
  getMethod_builtin hD.mapOf.typeIs PySem.F.plainAttrs_dict PySem.F.slot_dict_get PySem.F.type_dict_get hD.mapOf.noDict h

theorem call_opp {dflt : Value} {Q : Value → Shared → Prop} (N : News h₀ L s.heap news) (hP : (P, oP) ∈ news) (hd : oP.IsDictOf (intKind prog w) ops) (lo : (P == sysModules) = false)
    (hI : ∀ v, valueAt ops n = some v → ∃ (j : Int) (t : Tok), v = .int j t) (h1 : ∀ (j : Int) (u : Tok) tk, valueAt ops n = some (.int j u) → Q (.int j u) { s with toks := tk }) (h2 : ∀ tk, valueAt ops n = none → Q dflt { s with toks := tk }) :
    wpAny (model prog w) A (call (.builtin "dict.get") [.ref P, .int n t, dflt]) Q E s := by
  have hD := (dictOf_news (prog := prog) (w := w) N hP hd).mapOf
  refine call_meetsIn PySem.F.slot_dict_get hD.typeIs PySem.F.entry_dict_get (PySem.F.args_dict_get_3 _ _ _) (meets_dict_get_default (intKind prog w) P (k := n) (by simp [intKind, Value.isInt]) lo dflt) ⟨_, hD, ?_⟩
  cases hv : valueAt ops n with
  | none => exact h2 _ hv
  | some v =>
    obtain ⟨j, u, rfl⟩ := hI v hv
    exact h1 _ _ _ hv

theorem set_opp {v : Value} {Q : Unit → Shared → Prop} {g : Obj → List (Addr × Obj)} (F : Fr h₀ L s.heap m) (N : News h₀ L s.heap news) (U : UpdF P oP news g) (hd : oP.IsDictOf (intKind prog w) ops) (hsz : ops.length ≤ 1000000)
    (h : ∀ h' o' tk, Fr h₀ L h' m → News h₀ L h' (g o') → o'.IsDictOf (intKind prog w) (stored ops n v) → Q () { s with heap := h', toks := tk }) :
    wpAny (model prog w) A (setItem (.ref P) (.int n t) v) Q E s := by
  obtain ⟨pre, post, rfl, hg, hpre, hpost⟩ := U.split
  have hdm : (P, oP) ∈ pre ++ (P, oP) :: post := List.mem_append_right _ (.head _)
  have hD := dictOf_news (prog := prog) (w := w) N hdm hd
  have D := N _ hdm
  refine wpAny_setItem_pairs (knd := intKind prog w) (k := n) (by simp [intKind, Value.isInt]) hD (fun h' hm' hs' => ?_) (hsz := by rw [sizeLine_eq]; omega)
  obtain ⟨o', es, ep, e1, e2, e3, e4, e5, e6⟩ := hm'
  obtain ⟨oL, les, lep, hL, r⟩ := F.ns
  have hLd : L ≠ P := fun q => D.2.1 q.symm
  have off : ∀ b o, h₀.get? b = some o → b ≠ P := fun b o e q => by rw [q, D.2.2] at e; cases e
  refine h h' o' _ ⟨⟨oL, les, lep, (hs'.2 L hLd).trans hL, r⟩, fun b o e => (hs'.2 b (off b o e)).trans (F.keep b o e), F.above⟩ (hg o' ▸ fun p hp => ?_) ⟨es, ep, e2, e3, e4, e5, e6⟩
  rcases List.mem_append.mp hp with q | q
  · have P' := N p (List.mem_append_left _ q); exact ⟨(hs'.2 _ (hpre p q)).trans P'.1, P'.2⟩
  · rcases List.mem_cons.mp q with rfl | q
    · exact ⟨e1, D.2⟩
    · have P' := N p (List.mem_append_right _ (.tail _ q)); exact ⟨(hs'.2 _ (hpost p q)).trans P'.1, P'.2⟩
end

/-! small lemmas on ledgers -/
theorem mem_next {α : Type} {a b : α} {l : List α} (h : a ∈ l) : a ∈ b :: l := List.Mem.tail _ h
theorem mem_appL {α : Type} {a : α} {l r : List α} (h : a ∈ l) : List.Mem a (l ++ r) := List.mem_append.mpr (.inl h)
theorem mem_appR {α : Type} {a : α} {l r : List α} (h : a ∈ r) : List.Mem a (l ++ r) := List.mem_append.mpr (.inr h)
theorem mem_raw {α : Type} {a : α} {l : List α} (h : a ∈ l) : List.Mem a l := h
theorem sub_refl {l : List (Addr × Obj)} : ∀ p ∈ l, p ∈ l := fun _ h => h
theorem sub_tail {T l : List (Addr × Obj)} {x : Addr × Obj} (h : ∀ p ∈ T, p ∈ l) : ∀ p ∈ T, p ∈ x :: l := fun p hp => .tail _ (h p hp)
theorem sub_cons {T l : List (Addr × Obj)} {x : Addr × Obj} (h : x ∈ l) (h' : ∀ p ∈ T, p ∈ l) : ∀ p ∈ x :: T, p ∈ l := fun p hp => by
  rcases List.mem_cons.mp hp with rfl | hp
  · exact h
  · exact h' p hp
theorem news_sub {h₀ h : Heap} {L : Addr} {l l' : List (Addr × Obj)} (N : News h₀ L h l) (hs : ∀ p ∈ l', p ∈ l) : News h₀ L h l' := fun p hp => N p (hs p hp)
def Hi (D : Addr) (l : List (Addr × Obj)) : Prop := ∀ p ∈ l, @LT.lt Nat _ p.1 D
theorem hi_of {D : Addr} {l : List (Addr × Obj)} (h : ∀ p ∈ l, p.1 < D) : Hi D l := h
theorem hi_succ {D : Addr} {l : List (Addr × Obj)} (h : Hi D l) : Hi (D + 1) l := fun p hp => Nat.lt_succ_of_lt (h p hp)
theorem hi_succ2 {D : Addr} {l : List (Addr × Obj)} (h : Hi D l) : Hi (D + 1 + 1) l := hi_succ (hi_succ h)
theorem hi_succ3 {D : Addr} {l : List (Addr × Obj)} (h : Hi D l) : Hi (D + 1 + 1 + 1) l := hi_succ (hi_succ2 h)
theorem hi_succ4 {D : Addr} {l : List (Addr × Obj)} (h : Hi D l) : Hi (D + 1 + 1 + 1 + 1) l := hi_succ (hi_succ3 h)
theorem Hi.ne {D : Addr} {l T : List (Addr × Obj)} (h : Hi D l) (hs : ∀ p ∈ T, p ∈ l) : ∀ p ∈ T, p.1 ≠ D := fun p hp => Nat.ne_of_lt (h p (hs p hp))

structure Ord (A : NA) : Prop where
  o1 : @LT.lt Nat _ A.dN A.N
  o2 : @LT.lt Nat _ A.N A.C
  o3 : @LT.lt Nat _ A.C A.dG
  o4 : @LT.lt Nat _ A.dG A.G
  o5 : @LT.lt Nat _ A.G A.M
  o6 : @LT.lt Nat _ A.M A.P
  lo1 : (A.M == sysModules) = false
  lo2 : (A.P == sysModules) = false

/-- what stands behind the net's fixed objects keeps off those that change -/
structure OrdNe (A : NA) : Prop where
  n01 : @Ne Nat A.dN A.N
  n02 : @Ne Nat A.dN A.C
  n03 : @Ne Nat A.dN A.dG
  n04 : @Ne Nat A.dN A.G
  n05 : @Ne Nat A.dN A.M
  n06 : @Ne Nat A.dN A.P
  n12 : @Ne Nat A.N A.C
  n13 : @Ne Nat A.N A.dG
  n14 : @Ne Nat A.N A.G
  n15 : @Ne Nat A.N A.M
  n16 : @Ne Nat A.N A.P
  n23 : @Ne Nat A.C A.dG
  n24 : @Ne Nat A.C A.G
  n25 : @Ne Nat A.C A.M
  n26 : @Ne Nat A.C A.P
  n34 : @Ne Nat A.dG A.G
  n35 : @Ne Nat A.dG A.M
  n36 : @Ne Nat A.dG A.P
  n45 : @Ne Nat A.G A.M
  n46 : @Ne Nat A.G A.P
  n56 : @Ne Nat A.M A.P
theorem Ord.all {A : NA} (h : Ord A) : OrdNe A := by
  obtain ⟨o1, o2, o3, o4, o5, o6, _, _⟩ := h
  have p02 := Nat.lt_trans o1 o2
  have p03 := Nat.lt_trans p02 o3
  have p04 := Nat.lt_trans p03 o4
  have p05 := Nat.lt_trans p04 o5
  have p06 := Nat.lt_trans p05 o6
  have p13 := Nat.lt_trans o2 o3
  have p14 := Nat.lt_trans p13 o4
  have p15 := Nat.lt_trans p14 o5
  have p16 := Nat.lt_trans p15 o6
  have p24 := Nat.lt_trans o3 o4
  have p25 := Nat.lt_trans p24 o5
  have p26 := Nat.lt_trans p25 o6
  have p35 := Nat.lt_trans o4 o5
  have p36 := Nat.lt_trans p35 o6
  have p46 := Nat.lt_trans o5 o6
  exact ⟨Nat.ne_of_lt o1, Nat.ne_of_lt p02, Nat.ne_of_lt p03, Nat.ne_of_lt p04, Nat.ne_of_lt p05, Nat.ne_of_lt p06, Nat.ne_of_lt o2, Nat.ne_of_lt p13, Nat.ne_of_lt p14, Nat.ne_of_lt p15, Nat.ne_of_lt p16, Nat.ne_of_lt o3, Nat.ne_of_lt p24, Nat.ne_of_lt p25, Nat.ne_of_lt p26, Nat.ne_of_lt o4, Nat.ne_of_lt p35, Nat.ne_of_lt p36, Nat.ne_of_lt o5, Nat.ne_of_lt p46, Nat.ne_of_lt o6⟩
theorem ltc0 {a D : Nat} {r : Prop} (h : @LT.lt Nat _ a D ∧ r) : a ≠ D := Nat.ne_of_lt h.1
theorem ltc1 {a D : Nat} {x0 r : Prop} (h : x0 ∧ @LT.lt Nat _ a D ∧ r) : a ≠ D := Nat.ne_of_lt h.2.1
theorem ltc2 {a D : Nat} {x0 x1 r : Prop} (h : x0 ∧ x1 ∧ @LT.lt Nat _ a D ∧ r) : a ≠ D := Nat.ne_of_lt h.2.2.1
theorem ltc3 {a D : Nat} {x0 x1 x2 r : Prop} (h : x0 ∧ x1 ∧ x2 ∧ @LT.lt Nat _ a D ∧ r) : a ≠ D := Nat.ne_of_lt h.2.2.2.1
theorem ltc4 {a D : Nat} {x0 x1 x2 x3 r : Prop} (h : x0 ∧ x1 ∧ x2 ∧ x3 ∧ @LT.lt Nat _ a D ∧ r) : a ≠ D := Nat.ne_of_lt h.2.2.2.2.1
theorem ltc5 {a D : Nat} {x0 x1 x2 x3 x4 r : Prop} (h : x0 ∧ x1 ∧ x2 ∧ x3 ∧ x4 ∧ @LT.lt Nat _ a D ∧ r) : a ≠ D := Nat.ne_of_lt h.2.2.2.2.2.1
theorem ltc6 {a D : Nat} {x0 x1 x2 x3 x4 x5 r : Prop} (h : x0 ∧ x1 ∧ x2 ∧ x3 ∧ x4 ∧ x5 ∧ @LT.lt Nat _ a D ∧ r) : a ≠ D := Nat.ne_of_lt h.2.2.2.2.2.2.1
theorem ltc7 {a D : Nat} {x0 x1 x2 x3 x4 x5 x6 r : Prop} (h : x0 ∧ x1 ∧ x2 ∧ x3 ∧ x4 ∧ x5 ∧ x6 ∧ @LT.lt Nat _ a D ∧ r) : a ≠ D := Nat.ne_of_lt h.2.2.2.2.2.2.2.1
theorem ltc8 {a D : Nat} {x0 x1 x2 x3 x4 x5 x6 x7 r : Prop} (h : x0 ∧ x1 ∧ x2 ∧ x3 ∧ x4 ∧ x5 ∧ x6 ∧ x7 ∧ @LT.lt Nat _ a D ∧ r) : a ≠ D := Nat.ne_of_lt h.2.2.2.2.2.2.2.2.1
theorem ltc9 {a D : Nat} {x0 x1 x2 x3 x4 x5 x6 x7 x8 r : Prop} (h : x0 ∧ x1 ∧ x2 ∧ x3 ∧ x4 ∧ x5 ∧ x6 ∧ x7 ∧ x8 ∧ @LT.lt Nat _ a D ∧ r) : a ≠ D := Nat.ne_of_lt h.2.2.2.2.2.2.2.2.2.1
theorem ltc10 {a D : Nat} {x0 x1 x2 x3 x4 x5 x6 x7 x8 x9 r : Prop} (h : x0 ∧ x1 ∧ x2 ∧ x3 ∧ x4 ∧ x5 ∧ x6 ∧ x7 ∧ x8 ∧ x9 ∧ @LT.lt Nat _ a D ∧ r) : a ≠ D := Nat.ne_of_lt h.2.2.2.2.2.2.2.2.2.2.1
theorem ltc11 {a D : Nat} {x0 x1 x2 x3 x4 x5 x6 x7 x8 x9 x10 r : Prop} (h : x0 ∧ x1 ∧ x2 ∧ x3 ∧ x4 ∧ x5 ∧ x6 ∧ x7 ∧ x8 ∧ x9 ∧ x10 ∧ @LT.lt Nat _ a D ∧ r) : a ≠ D := Nat.ne_of_lt h.2.2.2.2.2.2.2.2.2.2.2.1
theorem ltc12 {a D : Nat} {x0 x1 x2 x3 x4 x5 x6 x7 x8 x9 x10 x11 r : Prop} (h : x0 ∧ x1 ∧ x2 ∧ x3 ∧ x4 ∧ x5 ∧ x6 ∧ x7 ∧ x8 ∧ x9 ∧ x10 ∧ x11 ∧ @LT.lt Nat _ a D ∧ r) : a ≠ D := Nat.ne_of_lt h.2.2.2.2.2.2.2.2.2.2.2.2.1
theorem ltc13 {a D : Nat} {x0 x1 x2 x3 x4 x5 x6 x7 x8 x9 x10 x11 x12 r : Prop} (h : x0 ∧ x1 ∧ x2 ∧ x3 ∧ x4 ∧ x5 ∧ x6 ∧ x7 ∧ x8 ∧ x9 ∧ x10 ∧ x11 ∧ x12 ∧ @LT.lt Nat _ a D ∧ r) : a ≠ D := Nat.ne_of_lt h.2.2.2.2.2.2.2.2.2.2.2.2.2.1
theorem ltc14 {a D : Nat} {x0 x1 x2 x3 x4 x5 x6 x7 x8 x9 x10 x11 x12 x13 r : Prop} (h : x0 ∧ x1 ∧ x2 ∧ x3 ∧ x4 ∧ x5 ∧ x6 ∧ x7 ∧ x8 ∧ x9 ∧ x10 ∧ x11 ∧ x12 ∧ x13 ∧ @LT.lt Nat _ a D ∧ r) : a ≠ D := Nat.ne_of_lt h.2.2.2.2.2.2.2.2.2.2.2.2.2.2.1
structure OffFix (A : NA) (T : List (Addr × Obj)) : Prop where
  q1 : ∀ p ∈ T, p.1 ≠ A.dN
  q2 : ∀ p ∈ T, p.1 ≠ A.C
  q3 : ∀ p ∈ T, p.1 ≠ A.M
  q4 : ∀ p ∈ T, p.1 ≠ A.P

def inp (i : Nat) : RF := fun row => row / 2 ^ i % 2 == 1

structure Core (prog : Program) (w : World) (A : NA) (c : Nat) (oM oP : Obj) (cs : List Cell) (tl : List (Addr × Obj)) (V : Int → RF) (made : List (MKey × Addr × Value)) (ops : List (Int × Value)) : Prop where
  ord : Ord A
  tup : ∀ p ∈ tl, ∃ vs, p.2 = tupOf vs
  kept : ∀ p ∈ A.kept, p ∈ tl
  cnt : c = 8 + cs.length
  cel : ∀ x ∈ cs, (x.at_, tupOf [.str x.kd.name x.kt, .int x.out x.ot, .ref x.insAt, .none]) ∈ tl ∧ (x.insAt, tupOf (ivals x.ins)) ∈ tl
  outs : ∀ (i : Nat) x, cs[i]? = some x → x.out = ((8 + i : Nat) : Int) ∧ x.ins.length = x.kd.arity ∧ (∀ p ∈ x.ins, 0 ≤ p.1 ∧ p.1 < ((8 + i : Nat) : Int)) ∧ V x.out = x.kd.sem (x.ins.map fun p => V p.1)
  v0 : V 0 = fF
  v1 : V 1 = fT
  vin : ∀ i : Nat, i < 6 → V ((2 + i : Nat) : Int) = inp i
  mD : MadeOf prog w oM made tl
  mOk : ∀ x ∈ made, ∃ (kd : Kd) (ns : List Int) (r : Int) (t : Tok), x.1 = .inl kd.name :: ns.map .inr ∧ x.2.2 = .int r t ∧ 0 ≤ r ∧ r < (c : Int) ∧ (∀ n ∈ ns, 0 ≤ n ∧ n < (c : Int)) ∧ V r = kd.sem (ns.map V)
  mL : made.length ≤ cs.length
  oD : oP.IsDictOf (intKind prog w) ops
  oOk : ∀ kv ∈ ops, ∃ (j : Int) (t : Tok), kv.2 = .int j t ∧ 0 ≤ kv.1 ∧ kv.1 < (c : Int) ∧ 0 ≤ j ∧ j < (c : Int) ∧ ∀ i, V kv.1 i = !V j i
  oL : ops.length ≤ 2 * cs.length

section
variable {prog : Program} {w : World} {A : NA} {c : Nat} {oM oP : Obj} {cs : List Cell} {tl : List (Addr × Obj)} {V : Int → RF} {made : List (MKey × Addr × Value)} {ops : List (Int × Value)}

abbrev upV (V : Int → RF) (c : Nat) (f : RF) : Int → RF := fun n => if n = (c : Int) then f else V n

theorem upV_lt {n : Int} {f : RF} (h : n < (c : Int)) : upV V c f n = V n := if_neg (by omega)
theorem upV_at {f : RF} : upV V c f (c : Int) = f := if_pos rfl
theorem map_upV {ns : List Int} {f : RF} (h : ∀ n ∈ ns, 0 ≤ n ∧ n < (c : Int)) : ns.map (upV V c f) = ns.map V := List.map_congr_left fun n hn => upV_lt (h n hn).2
theorem map_upV' {ns : List (Int × Tok)} {f : RF} (h : ∀ p ∈ ns, 0 ≤ p.1 ∧ p.1 < (c : Int)) : ns.map (fun p => upV V c f p.1) = ns.map (fun p => V p.1) := List.map_congr_left fun n hn => upV_lt (h n hn).2

theorem Core.grow (K : Core prog w A c oM oP cs tl V made ops) {x : Cell} {tl' : List (Addr × Obj)} (hx : x.out = (c : Int)) (ha : x.ins.length = x.kd.arity) (hi : ∀ p ∈ x.ins, 0 ≤ p.1 ∧ p.1 < (c : Int))
    (ht : ∀ p ∈ tl', ∃ vs, p.2 = tupOf vs) (hs : ∀ p ∈ tl, p ∈ tl') (h1 : (x.at_, tupOf [.str x.kd.name x.kt, .int x.out x.ot, .ref x.insAt, .none]) ∈ tl') (h2 : (x.insAt, tupOf (ivals x.ins)) ∈ tl') :
    Core prog w A (c + 1) oM oP (cs ++ [x]) tl' (upV V c (x.kd.sem (x.ins.map fun p => V p.1))) made ops where
  ord := K.ord
  tup := ht
  kept := fun p hp => hs p (K.kept p hp)
  cnt := by rw [K.cnt, List.length_append, List.length_singleton]; omega
  cel := fun y hy => by
    rcases List.mem_append.mp hy with hy | hy
    · exact ⟨hs _ (K.cel y hy).1, hs _ (K.cel y hy).2⟩
    · rw [List.mem_singleton.mp hy]; exact ⟨h1, h2⟩
  outs := fun i y hy => by
    rcases Nat.lt_or_ge i cs.length with h | h
    · rw [List.getElem?_append_left h] at hy
      obtain ⟨a, b, d, e⟩ := K.outs i y hy
      have hc := K.cnt
      refine ⟨a, b, d, ?_⟩
      rw [upV_lt (by rw [a]; omega), map_upV' (fun p hp => ⟨(d p hp).1, by have := (d p hp).2; omega⟩)]
      exact e
    · rw [List.getElem?_append_right h] at hy
      have hi' : i = cs.length := by
        rcases Nat.lt_or_ge (i - cs.length) 1 with h' | h'
        · omega
        · rw [List.getElem?_eq_none (by simpa using h')] at hy; cases hy
      subst hi'
      simp only [Nat.sub_self, List.getElem?_cons_zero, Option.some.injEq] at hy
      subst hy
      have hc := K.cnt
      refine ⟨by rw [hx, hc], ha, fun p hp => ⟨(hi p hp).1, by have := (hi p hp).2; omega⟩, ?_⟩
      rw [hx, upV_at, map_upV' hi]
  v0 := by rw [upV_lt (by rw [K.cnt]; omega)]; exact K.v0
  v1 := by rw [upV_lt (by rw [K.cnt]; omega)]; exact K.v1
  vin := fun i h => by rw [upV_lt (by rw [K.cnt]; omega)]; exact K.vin i h
  mD := K.mD.mono hs
  mOk := fun y hy => by
    obtain ⟨kd, ns, r, t, e1, e2, e3, e4, e5, e6⟩ := K.mOk y hy
    refine ⟨kd, ns, r, t, e1, e2, e3, by omega, fun n hn => ⟨(e5 n hn).1, by have := (e5 n hn).2; omega⟩, ?_⟩
    rw [upV_lt e4, map_upV e5]; exact e6
  mL := by rw [List.length_append]; exact Nat.le_trans K.mL (Nat.le_add_right _ _)
  oD := K.oD
  oOk := fun kv hk => by
    obtain ⟨j, t, e1, e2, e3, e4, e5, e6⟩ := K.oOk kv hk
    refine ⟨j, t, e1, e2, by omega, e4, by omega, fun i => ?_⟩
    rw [upV_lt e3, upV_lt e5]; exact e6 i
  oL := by rw [List.length_append]; have := K.oL; omega

theorem Core.addMade (K : Core prog w A c oM oP cs tl V made ops) {oM' : Obj} {T : List (Addr × Obj)} {kd : Kd} {ns : List Int} {r : Int} {t : Tok} {ka : Addr} (M : MadeOf prog w oM' (made ++ [(.inl kd.name :: ns.map .inr, ka, .int r t)]) T) (hT : ∀ p ∈ T, p ∈ tl)
    (hl : made.length + 1 ≤ cs.length) (hr : 0 ≤ r ∧ r < (c : Int)) (hn : ∀ n ∈ ns, 0 ≤ n ∧ n < (c : Int)) (hv : V r = kd.sem (ns.map V)) :
    Core prog w A c oM' oP cs tl V (made ++ [(.inl kd.name :: ns.map .inr, ka, .int r t)]) ops :=
  { K with
    mD := M.mono hT
    mOk := fun y hy => by
      rcases List.mem_append.mp hy with hy | hy
      · exact K.mOk y hy
      · rw [List.mem_singleton.mp hy]; exact ⟨kd, ns, r, t, rfl, rfl, hr.1, hr.2, hn, hv⟩
    mL := by rw [List.length_append]; exact hl }

theorem mem_stored {kvs : List (Int × Value)} {k : Int} {v : Value} {kv : Int × Value} (h : kv ∈ stored kvs k v) : kv ∈ kvs ∨ kv = (k, v) := by
  unfold stored at h
  split at h
  · obtain ⟨x, hx, e⟩ := List.mem_map.mp h
    split at e
    · rename_i hk; right; rw [← e, hk]
    · left; rw [← e]; exact hx
  · rcases List.mem_append.mp h with h | h
    · exact .inl h
    · exact .inr (List.mem_singleton.mp h)

theorem Core.addOpp (K : Core prog w A c oM oP cs tl V made ops) {oP' : Obj} {x y : Int} {tx ty : Tok} (D : oP'.IsDictOf (intKind prog w) (stored (stored ops x (.int y ty)) y (.int x tx)))
    (hl : ops.length + 2 ≤ 2 * cs.length) (hx : 0 ≤ x ∧ x < (c : Int)) (hy : 0 ≤ y ∧ y < (c : Int)) (hv : ∀ i, V x i = !V y i) :
    Core prog w A c oM oP' cs tl V made (stored (stored ops x (.int y ty)) y (.int x tx)) :=
  { K with
    oD := D
    oOk := fun kv hk => by
      rcases mem_stored hk with hk | rfl
      · rcases mem_stored hk with hk | rfl
        · exact K.oOk kv hk
        · exact ⟨y, ty, rfl, hx.1, hx.2, hy.1, hy.2, hv⟩
      · exact ⟨x, tx, rfl, hy.1, hy.2, hx.1, hx.2, fun i => by rw [hv i, Bool.not_not]⟩
    oL := by
      have h1 := stored_length_le (stored ops x (.int y ty)) y (.int x tx)
      have h2 := stored_length_le ops x (.int y ty)
      omega }
end

abbrev cellsObj (cs : List Cell) (ec : Nat) : Obj := listOf (cs.map fun x => Value.ref x.at_).toArray ec

/-- the net: the ledger's tail nt, what its nets mean (gs), and how many cells may still be made (R) -/
inductive Net (prog : Program) (w : World) (A : NA) (nt : List (Addr × Obj)) (gs : List (Int × RF)) (R : Nat) : Prop
  | mk (c : Nat) (tc : Tok) (oM oP : Obj) (cs : List Cell) (ec : Nat) (tl : List (Addr × Obj)) (V : Int → RF) (made : List (MKey × Addr × Value)) (ops : List (Int × Value)) : (nt = fixed w.params A (c : Int) tc (cellsObj cs ec) oM oP tl) → (Core prog w A c oM oP cs tl V made ops) → ((∀ p ∈ gs, 0 ≤ p.1 ∧ p.1 < (c : Int) ∧ V p.1 = p.2)) → (cs.length + R ≤ 100000) → Net prog w A nt gs R

def Apart (own nt : List (Addr × Obj)) : Prop := ∀ p ∈ own, ∀ q ∈ nt, p.1 ≠ q.1

inductive Split : List (Addr × Obj) → List (Addr × Obj) → List (Addr × Obj) → Prop
  | nil {nt} : Split nt [] nt
  | app {own nt} : Split (own ++ nt) own nt
  | cons {x news own nt} : Split news own nt → Split (x :: news) (x :: own) nt
theorem Split.eq {news own nt : List (Addr × Obj)} (h : Split news own nt) : news = own ++ nt := by
  induction h with
  | nil => rfl
  | app => rfl
  | cons _ ih => rw [ih]; rfl
end Mine93
-- Pair93q
namespace Mine93

theorem kwPair930 : True := by
  k_with_none
  (k_with "k_ne" => ((try dsimp only); first | assumption | exact Ne.symm (by assumption) | exact ltc0 (by assumption) | exact ltc1 (by assumption) | exact ltc2 (by assumption) | exact ltc3 (by assumption) | exact ltc4 (by assumption) | exact ltc5 (by assumption) | exact ltc6 (by assumption) | exact ltc7 (by assumption) | exact ltc8 (by assumption) | exact ltc9 (by assumption) | exact ltc10 (by assumption) | exact ltc11 (by assumption) | exact ltc12 (by assumption) | exact ltc13 (by assumption) | exact ltc14 (by assumption) | exact Ne.symm (ltc0 (by assumption)) | exact Ne.symm (ltc1 (by assumption)) | exact Ne.symm (ltc2 (by assumption)) | exact Ne.symm (ltc3 (by assumption)) | exact Ne.symm (ltc4 (by assumption)) | exact Ne.symm (ltc5 (by assumption)) | exact Ne.symm (ltc6 (by assumption)) | exact Ne.symm (ltc7 (by assumption)) | exact Ne.symm (ltc8 (by assumption)) | exact Ne.symm (ltc9 (by assumption)) | exact Ne.symm (ltc10 (by assumption)) | exact Ne.symm (ltc11 (by assumption)) | exact Ne.symm (ltc12 (by assumption)) | exact Ne.symm (ltc13 (by assumption)) | exact Ne.symm (ltc14 (by assumption)) | omega))
  (k_with "room" => first | exact Nat.le_of_ble_eq_true rfl | exact room2 (by assumption) (Nat.le_of_ble_eq_true rfl) | exact room3 (by assumption) (Nat.le_of_ble_eq_true rfl) | exact room1 (by assumption))
  (k_with "units" => first | exact Nat.le_of_ble_eq_true rfl | exact room2 (by assumption) (Nat.le_of_ble_eq_true rfl) | exact room3 (by assumption) (Nat.le_of_ble_eq_true rfl) | exact room1 (by assumption))
  (k_with "sub" => repeat (first | exact fun _ h => h | (refine sub_cons ?kqmem ?_; (case kqmem => k_mem)) | refine sub_tail ?_))
  (k_with "key" => first | exact items3 | exact items4)
  (k_with "compareOp NotIn ref ref" => (k_here; k_dflt (refine' notin_made (prog := _) ?kqN ?kqd ?kqk ?kqM ?kqT ?kqi ?kqlo ?kqu ?_; (case kqM => assumption); (case kqN => k_asm); (case kqd => k_mem); (case kqk => k_mem); (case kqT => walk_at "sub"); (case kqi => walk_at "key"); (case kqlo => assumption); (case kqu => ktr_units)); intro tk'))
  (k_with "setItem ref ref" => (k_here; k_dflt (refine' set_made (prog := _) ?kqF ?kqN ?kqU ?kqk ?kqM ?kqT ?kqi ?kqu ?kqno ?kqsz ?_; (case kqM => assumption); (case kqF => k_asm); (case kqN => k_asm); (case kqU => k_updF); (case kqk => k_mem); (case kqT => walk_at "sub"); (case kqi => walk_at "key"); (case kqu => ktr_units); (case kqno => assumption); (case kqsz => assumption)); intro h' o' tk' F' N' M'; (try dsimp only at N'); (try k_sweep)))
  (k_with "subscriptTail Attribute Name Name ref ref" => (k_here; (with_reducible show wpAny _ _ (subscriptTail _ _ (Value.ref _) (Value.ref _)) _ _ _); k_dflt (refine' get_made (prog := _) ?kqN ?kqd ?kqk ?kqM ?kqT ?kqi ?kqu ?kqp ?_; (case kqM => assumption); (case kqN => k_asm); (case kqd => k_mem); (case kqk => k_mem); (case kqT => walk_at "sub"); (case kqi => walk_at "key"); (case kqu => ktr_units); (case kqp => assumption)); intro p' tk' hp'))
  (k_with "subscriptTail Attribute Name Name ref ref" => (k_here; (with_reducible show wpAny _ _ (subscriptTail _ _ (Value.ref _) (Value.ref _)) _ _ _); k_dflt (refine' get_made_new (prog := _) ?kqN ?kqd ?kqk ?kqM ?kqT ?kqi ?kqu ?kqp ?_; (case kqM => assumption); (case kqN => k_asm); (case kqd => k_mem); (case kqk => k_mem); (case kqT => walk_at "sub"); (case kqi => walk_at "key"); (case kqu => ktr_units); (case kqp => assumption)); intro tk'))
  (k_with "k_all" => assumption)
  (k_with "newTuple" => (k_here; k_dflt (refine' kup_newTuple ?kqF ?kqN ?_ ?kqz; (case kqF => k_asm); (case kqN => k_asm); (case kqz => kmk_size)); intro D' h' F' N' l1; (have l9 := hi_of l1); (try k_lt l1); (try k_sweep)))
  trivial

section
variable {prog : Program} {w : World} {mg mb : Str → Option Value} {mean : ExcName → Option Value} {loose : List Str} {dp un : Nat} {gd : Option (List Code)} {cn : Str} {cs : Scope} {L a : Addr} {ccd : Value} {cl : List (Str × Addr)} {outer : List Env} {A₀ : Around}
  {base h₀ : Heap} {m : Str → Option Value} {s : Shared} {Q E : Value → Shared → Prop}

theorem e_pair {A : NA} {c : Int} {tc : Tok} {oM oP : Obj} {its : Array Value} {ec : Nat} {tl : List (Addr × Obj)} {x y : Int} {tx ty : Tok} {kd : Str} {tk : Tok} {made : List (MKey × Addr × Value)}
    (B : Below A₀ base outer h₀) (F : Fr h₀ L s.heap m) (X : (hd93.heap_1 w.params).In h₀) (N : News h₀ L s.heap (fixed w.params A c tc (listOf its ec) oM oP tl)) (T : Top hd93.view_1 loose mean mg mb h₀) (hk : cs.kind = .function)
    (O : Ord A) (OF : OffFix A tl) (hM : MadeOf prog w oM made tl) (hsz : made.length ≤ 100000) (hits : its.size ≤ 100000)
    (hd : dp + 10 < recursionLimit) (hu : un + 80 < cLine)
    (ret1 : ∀ (p : Addr × Value) h' tk', atKey made [.inl kd, .inr (if y < x then y else x), .inr (if y > x then y else x)] = some p → Fr h₀ L h' m → News h₀ L h' (fixed w.params A c tc (listOf its ec) oM oP tl) → Q p.2 { s with heap := h', toks := tk' })
    (ret2 : ∀ D1 D2 D3 t1 t2 t3 t4 h' tk' tc' oM', (atKey made [.inl kd, .inr (if y < x then y else x), .inr (if y > x then y else x)]).isSome = false → Fr h₀ L h' m →
      News h₀ L h' (fixed w.params A (c + 1) tc' (listOf (its.push (.ref D1)) (ec + 1)) oM' oP
        ((D1, tupOf [.str kd t1, .int c t2, .ref D2, .none]) :: (D2, tupOf [.int (if y < x then y else x) t3, .int (if y > x then y else x) t4]) :: (D3, tupOf [.str kd t1, .int (if y < x then y else x) t3, .int (if y > x then y else x) t4]) :: tl)) →
      MadeOf prog w oM' (made ++ [([.inl kd, .inr (if y < x then y else x), .inr (if y > x then y else x)], D3, .int c t2)]) ((D3, tupOf [.str kd t1, .int (if y < x then y else x) t3, .int (if y > x then y else x) t4]) :: tl) →
      (∀ p ∈ tl, p.1 ≠ D1) → (∀ p ∈ tl, p.1 ≠ D2) → (∀ p ∈ tl, p.1 ≠ D3) → Q (.int c t2) { s with heap := h', toks := tk' }) :
    wpAny (model prog w) (ktrTop dp un gd cn cs L a ccd cl outer) (call (.ref 42) [.ref A.G, .str kd tk, .int x tx, .int y ty]) Q E s := by
  obtain ⟨n01, n02, n03, n04, n05, n06, n12, n13, n14, n15, n16, n23, n24, n25, n26, n34, n35, n36, n45, n46, n56⟩ := Ord.all O
  obtain ⟨o1, o2, o3, o4, o5, o6, lo1, lo2⟩ := O
  obtain ⟨q1, q2, q3, q4⟩ := OF
  refine wpAny_call ?_
  k_dflt ktr_enter
  rename Fr _ _ _ (fun y => List.lookup y _) => FN
  replace FN : Fr _ _ _ (fun y9 => List.lookup y9 [(Str.ofString "second", .int y ty), (Str.ofString "first", .int x tx), (Str.ofString "kind", .str kd tk), (Str.ofString "self", .ref A.G)]) := FN
  generalize (Shared.toks s + List.length _) = tk0
  k_steps
  · exact ret1 _ _ _ (by assumption) (by k_asm) (news_sub (by k_asm) (by walk_at "sub"))
  · refine' ret2 _ _ _ _ _ _ _ _ _ _ _ ?n1 ?n2 (news_sub ?n3 ?n4) ?n5 ?n6 ?n7 ?n8
    case n1 => assumption
    case n2 => k_asm
    case n3 => k_asm
    case n4 => walk_at "sub"
    case n5 => assumption
    case n6 => exact Hi.ne (by assumption) (by walk_at "sub")
    case n7 => exact Hi.ne (by assumption) (by walk_at "sub")
    case n8 => exact Hi.ne (by assumption) (by walk_at "sub")
end
end Mine93
-- Inv93q
namespace Mine93

theorem kwInv930 : True := by
  k_with_none
  (k_with "k_ne" => ((try dsimp only); first | assumption | exact Ne.symm (by assumption) | exact ltc0 (by assumption) | exact ltc1 (by assumption) | exact ltc2 (by assumption) | exact ltc3 (by assumption) | exact ltc4 (by assumption) | exact ltc5 (by assumption) | exact ltc6 (by assumption) | exact ltc7 (by assumption) | exact ltc8 (by assumption) | exact ltc9 (by assumption) | exact ltc10 (by assumption) | exact ltc11 (by assumption) | exact ltc12 (by assumption) | exact ltc13 (by assumption) | exact ltc14 (by assumption) | exact Ne.symm (ltc0 (by assumption)) | exact Ne.symm (ltc1 (by assumption)) | exact Ne.symm (ltc2 (by assumption)) | exact Ne.symm (ltc3 (by assumption)) | exact Ne.symm (ltc4 (by assumption)) | exact Ne.symm (ltc5 (by assumption)) | exact Ne.symm (ltc6 (by assumption)) | exact Ne.symm (ltc7 (by assumption)) | exact Ne.symm (ltc8 (by assumption)) | exact Ne.symm (ltc9 (by assumption)) | exact Ne.symm (ltc10 (by assumption)) | exact Ne.symm (ltc11 (by assumption)) | exact Ne.symm (ltc12 (by assumption)) | exact Ne.symm (ltc13 (by assumption)) | exact Ne.symm (ltc14 (by assumption)) | omega))
  (k_with "room" => first | exact Nat.le_of_ble_eq_true rfl | exact room2 (by assumption) (Nat.le_of_ble_eq_true rfl) | exact room3 (by assumption) (Nat.le_of_ble_eq_true rfl) | exact room1 (by assumption))
  (k_with "units" => first | exact Nat.le_of_ble_eq_true rfl | exact room2 (by assumption) (Nat.le_of_ble_eq_true rfl) | exact room3 (by assumption) (Nat.le_of_ble_eq_true rfl) | exact room1 (by assumption))
  (k_with "sub" => repeat (first | exact fun _ h => h | (refine sub_cons ?kqmem ?_; (case kqmem => k_mem)) | refine sub_tail ?_))
  (k_with "key" => first | exact items3 | exact items4)
  (k_with "compareOp NotIn ref ref" => (k_here; k_dflt (refine' notin_made (prog := _) ?kqN ?kqd ?kqk ?kqM ?kqT ?kqi ?kqlo ?kqu ?_; (case kqM => assumption); (case kqN => k_asm); (case kqd => k_mem); (case kqk => k_mem); (case kqT => walk_at "sub"); (case kqi => walk_at "key"); (case kqlo => assumption); (case kqu => ktr_units)); intro tk'))
  (k_with "setItem ref ref" => (k_here; k_dflt (refine' set_made (prog := _) ?kqF ?kqN ?kqU ?kqk ?kqM ?kqT ?kqi ?kqu ?kqno ?kqsz ?_; (case kqM => assumption); (case kqF => k_asm); (case kqN => k_asm); (case kqU => k_updF); (case kqk => k_mem); (case kqT => walk_at "sub"); (case kqi => walk_at "key"); (case kqu => ktr_units); (case kqno => assumption); (case kqsz => assumption)); intro h' o' tk' F' N' M'; (try dsimp only at N'); (try k_sweep)))
  (k_with "subscriptTail Attribute Name Name ref ref" => (k_here; (with_reducible show wpAny _ _ (subscriptTail _ _ (Value.ref _) (Value.ref _)) _ _ _); k_dflt (refine' get_made (prog := _) ?kqN ?kqd ?kqk ?kqM ?kqT ?kqi ?kqu ?kqp ?_; (case kqM => assumption); (case kqN => k_asm); (case kqd => k_mem); (case kqk => k_mem); (case kqT => walk_at "sub"); (case kqi => walk_at "key"); (case kqu => ktr_units); (case kqp => assumption)); intro p' tk' hp'))
  (k_with "subscriptTail Attribute Name Name ref ref" => (k_here; (with_reducible show wpAny _ _ (subscriptTail _ _ (Value.ref _) (Value.ref _)) _ _ _); k_dflt (refine' get_made_new (prog := _) ?kqN ?kqd ?kqk ?kqM ?kqT ?kqi ?kqu ?kqp ?_; (case kqM => assumption); (case kqN => k_asm); (case kqd => k_mem); (case kqk => k_mem); (case kqT => walk_at "sub"); (case kqi => walk_at "key"); (case kqu => ktr_units); (case kqp => assumption)); intro tk'))
  (k_with "compareOp NotIn int ref" => (k_here; k_dflt (refine' notin_opp (prog := _) ?kqN ?kqd ?kqM ?kqlo ?_; (case kqM => assumption); (case kqN => k_asm); (case kqd => k_mem); (case kqlo => assumption)); intro tk'))
  (k_with "setItem ref int" => (k_here; k_dflt (refine' set_opp (prog := _) ?kqF ?kqN ?kqU ?kqM ?kqsz ?_; (case kqM => assumption); (case kqF => k_asm); (case kqN => k_asm); (case kqU => k_updF); (case kqsz => (first | omega | ((refine Nat.le_trans (stored_length_le _ _ _) ?_); omega)))); intro h' o' tk' F' N' M'; (try dsimp only at N'); (try k_sweep)))
  (k_with "subscriptTail Attribute Name Name ref int" => (k_here; (with_reducible show wpAny _ _ (subscriptTail _ _ (Value.ref _) (Value.int _ _)) _ _ _); k_dflt (refine' get_opp (prog := _) ?kqN ?kqd ?kqM ?kqp ?_; (case kqM => assumption); (case kqN => k_asm); (case kqd => k_mem); (case kqp => assumption)); intro v' tk' hv'))
  (k_with "subscriptTail Attribute Name Name ref int" => (k_here; (with_reducible show wpAny _ _ (subscriptTail _ _ (Value.ref _) (Value.int _ _)) _ _ _); k_dflt (refine' get_opp_new (prog := _) ?kqN ?kqd ?kqM ?kqp ?_; (case kqM => assumption); (case kqN => k_asm); (case kqd => k_mem); (case kqp => assumption)); intro tk'))
  (k_with "k_all" => assumption)
  (k_with "newTuple" => (k_here; k_dflt (refine' kup_newTuple ?kqF ?kqN ?_ ?kqz; (case kqF => k_asm); (case kqN => k_asm); (case kqz => kmk_size)); intro D' h' F' N' l1; (have l9 := hi_of l1); (try k_lt l1); (try k_sweep)))
  trivial

section
variable {prog : Program} {w : World} {mg mb : Str → Option Value} {mean : ExcName → Option Value} {loose : List Str} {dp un : Nat} {gd : Option (List Code)} {cn : Str} {cs : Scope} {L a : Addr} {ccd : Value} {cl : List (Str × Addr)} {outer : List Env} {A₀ : Around}
  {base h₀ : Heap} {m : Str → Option Value} {s : Shared} {Q E : Value → Shared → Prop}

theorem e_inv {A : NA} {c : Int} {tc : Tok} {oM oP : Obj} {its : Array Value} {ec : Nat} {tl : List (Addr × Obj)} {x : Int} {tx : Tok} {ops : List (Int × Value)}
    (B : Below A₀ base outer h₀) (F : Fr h₀ L s.heap m) (X : (hd93.heap_1 w.params).In h₀) (N : News h₀ L s.heap (fixed w.params A c tc (listOf its ec) oM oP tl)) (T : Top hd93.view_1 loose mean mg mb h₀) (hk : cs.kind = .function)
    (O : Ord A) (OF : OffFix A tl) (hM : oP.IsDictOf (intKind prog w) ops) (hsz : ops.length ≤ 999000) (hits : its.size ≤ 100000) (hxc : x < c)
    (hd : dp + 10 < recursionLimit) (hu : un + 80 < cLine)
    (ret0 : ∀ t h' tk', (x = 0 ∨ x = 1) → Fr h₀ L h' m → News h₀ L h' (fixed w.params A c tc (listOf its ec) oM oP tl) → Q (.int (1 - x) t) { s with heap := h', toks := tk' })
    (ret1 : ∀ v h' tk', ¬ (x = 0 ∨ x = 1) → valueAt ops x = some v → Fr h₀ L h' m → News h₀ L h' (fixed w.params A c tc (listOf its ec) oM oP tl) → Q v { s with heap := h', toks := tk' })
    (ret2 : ∀ D1 D2 t1 t2 t3 t4 h' tk' tc' oP', ¬ (x = 0 ∨ x = 1) → (valueAt ops x).isSome = false → Fr h₀ L h' m →
      News h₀ L h' (fixed w.params A (c + 1) tc' (listOf (its.push (.ref D1)) (ec + 1)) oM oP' ((D1, tupOf [.str (Str.ofString "not") t1, .int c t2, .ref D2, .none]) :: (D2, tupOf [.int x t3]) :: tl)) →
      oP'.IsDictOf (intKind prog w) (stored (stored ops x (.int c t2)) c (.int x t4)) → (∀ p ∈ tl, p.1 ≠ D1) → (∀ p ∈ tl, p.1 ≠ D2) → Q (.int c t2) { s with heap := h', toks := tk' }) :
    wpAny (model prog w) (ktrTop dp un gd cn cs L a ccd cl outer) (call (.ref 56) [.ref A.G, .int x tx]) Q E s := by
  obtain ⟨n01, n02, n03, n04, n05, n06, n12, n13, n14, n15, n16, n23, n24, n25, n26, n34, n35, n36, n45, n46, n56⟩ := Ord.all O
  obtain ⟨o1, o2, o3, o4, o5, o6, lo1, lo2⟩ := O
  obtain ⟨q1, q2, q3, q4⟩ := OF
  refine wpAny_call ?_
  k_dflt ktr_enter
  rename Fr _ _ _ (fun y => List.lookup y _) => FN
  replace FN : Fr _ _ _ (fun y9 => List.lookup y9 [(Str.ofString "a", .int x tx), (Str.ofString "self", .ref A.G)]) := FN
  generalize (Shared.toks s + List.length _) = tk0
  k_steps
  · exact ret0 _ _ _ (by omega) (by k_asm) (news_sub (by k_asm) (by walk_at "sub"))
  · exact ret0 _ _ _ (by omega) (by k_asm) (news_sub (by k_asm) (by walk_at "sub"))
  · exact ret1 _ _ _ (by omega) (by assumption) (by k_asm) (news_sub (by k_asm) (by walk_at "sub"))
  · refine' ret2 _ _ _ _ _ _ _ _ _ _ ?n0 ?n1 ?n2 (news_sub ?n3 ?n4) ?n5 ?n6 ?n7
    case n0 => omega
    case n1 => assumption
    case n2 => k_asm
    case n3 => k_asm
    case n4 => walk_at "sub"
    case n5 => assumption
    case n6 => exact Hi.ne (by assumption) (by walk_at "sub")
    case n7 => exact Hi.ne (by assumption) (by walk_at "sub")
end
end Mine93
-- Opp93q
namespace Mine93

theorem kwOpp930 : True := by
  k_with_none
  (k_with "room" => first | exact Nat.le_of_ble_eq_true rfl | exact room2 (by assumption) (Nat.le_of_ble_eq_true rfl) | exact room3 (by assumption) (Nat.le_of_ble_eq_true rfl) | exact room1 (by assumption))
  (k_with "units" => first | exact Nat.le_of_ble_eq_true rfl | exact room2 (by assumption) (Nat.le_of_ble_eq_true rfl) | exact room3 (by assumption) (Nat.le_of_ble_eq_true rfl) | exact room1 (by assumption))
  (k_with "sub" => repeat (first | exact fun _ h => h | (refine sub_cons ?kqmem ?_; (case kqmem => k_mem)) | refine sub_tail ?_))
  (k_with "key" => first | exact items3 | exact items4)
  (k_with "compareOp NotIn ref ref" => (k_here; k_dflt (refine' notin_made (prog := _) ?kqN ?kqd ?kqk ?kqM ?kqT ?kqi ?kqlo ?kqu ?_; (case kqM => assumption); (case kqN => k_asm); (case kqd => k_mem); (case kqk => k_mem); (case kqT => walk_at "sub"); (case kqi => walk_at "key"); (case kqlo => assumption); (case kqu => ktr_units)); intro tk'))
  (k_with "setItem ref ref" => (k_here; k_dflt (refine' set_made (prog := _) ?kqF ?kqN ?kqU ?kqk ?kqM ?kqT ?kqi ?kqu ?kqno ?kqsz ?_; (case kqM => assumption); (case kqF => k_asm); (case kqN => k_asm); (case kqU => k_updF); (case kqk => k_mem); (case kqT => walk_at "sub"); (case kqi => walk_at "key"); (case kqu => ktr_units); (case kqno => assumption); (case kqsz => assumption)); intro h' o' tk' F' N' M'; (try dsimp only at N'); (try k_sweep)))
  (k_with "subscriptTail Attribute Name Name ref ref" => (k_here; (with_reducible show wpAny _ _ (subscriptTail _ _ (Value.ref _) (Value.ref _)) _ _ _); k_dflt (refine' get_made (prog := _) ?kqN ?kqd ?kqk ?kqM ?kqT ?kqi ?kqu ?kqp ?_; (case kqM => assumption); (case kqN => k_asm); (case kqd => k_mem); (case kqk => k_mem); (case kqT => walk_at "sub"); (case kqi => walk_at "key"); (case kqu => ktr_units); (case kqp => assumption)); intro p' tk' hp'))
  (k_with "subscriptTail Attribute Name Name ref ref" => (k_here; (with_reducible show wpAny _ _ (subscriptTail _ _ (Value.ref _) (Value.ref _)) _ _ _); k_dflt (refine' get_made_new (prog := _) ?kqN ?kqd ?kqk ?kqM ?kqT ?kqi ?kqu ?kqp ?_; (case kqM => assumption); (case kqN => k_asm); (case kqd => k_mem); (case kqk => k_mem); (case kqT => walk_at "sub"); (case kqi => walk_at "key"); (case kqu => ktr_units); (case kqp => assumption)); intro tk'))
  (k_with "compareOp NotIn int ref" => (k_here; k_dflt (refine' notin_opp (prog := _) ?kqN ?kqd ?kqM ?kqlo ?_; (case kqM => assumption); (case kqN => k_asm); (case kqd => k_mem); (case kqlo => assumption)); intro tk'))
  (k_with "setItem ref int" => (k_here; k_dflt (refine' set_opp (prog := _) ?kqF ?kqN ?kqU ?kqM ?kqsz ?_; (case kqM => assumption); (case kqF => k_asm); (case kqN => k_asm); (case kqU => k_updF); (case kqsz => (first | omega | ((refine Nat.le_trans (stored_length_le _ _ _) ?_); omega)))); intro h' o' tk' F' N' M'; (try dsimp only at N'); (try k_sweep)))
  (k_with "subscriptTail Attribute Name Name ref int" => (k_here; (with_reducible show wpAny _ _ (subscriptTail _ _ (Value.ref _) (Value.int _ _)) _ _ _); k_dflt (refine' get_opp (prog := _) ?kqN ?kqd ?kqM ?kqp ?_; (case kqM => assumption); (case kqN => k_asm); (case kqd => k_mem); (case kqp => assumption)); intro v' tk' hv'))
  (k_with "subscriptTail Attribute Name Name ref int" => (k_here; (with_reducible show wpAny _ _ (subscriptTail _ _ (Value.ref _) (Value.int _ _)) _ _ _); k_dflt (refine' get_opp_new (prog := _) ?kqN ?kqd ?kqM ?kqp ?_; (case kqM => assumption); (case kqN => k_asm); (case kqd => k_mem); (case kqp => assumption)); intro tk'))
  (k_with "getMethod ref" => (k_here; (with_reducible show wpAny _ _ (getMethod (Value.ref _) (PySem.Str.ofString "get") _) _ _ _); k_dflt (refine' method_opp (prog := _) (w := _) ?kqN ?kqd ?kqM ?_; (case kqM => assumption); (case kqN => k_asm); (case kqd => k_mem))))
  (k_with "call builtin:dict.get" => (k_here; k_dflt (refine' call_opp (prog := _) ?kqN ?kqd ?kqM ?kqlo ?kqi ?kqh1 ?kqh2; (case kqM => assumption); (case kqN => k_asm); (case kqd => k_mem); (case kqlo => assumption); (case kqi => assumption)); (case' kqh1 => intro j' u' tk' hv'); (case' kqh2 => intro tk' hv')))
  (k_with "k_all" => assumption)
  (k_with "newTuple" => (k_here; k_dflt (refine' kup_newTuple ?kqF ?kqN ?_ ?kqz; (case kqF => k_asm); (case kqN => k_asm); (case kqz => kmk_size)); intro D' h' F' N' l1; (have l9 := hi_of l1); (try k_lt l1); (try k_sweep)))
  trivial

section
variable {prog : Program} {w : World} {mg mb : Str → Option Value} {mean : ExcName → Option Value} {loose : List Str} {dp un : Nat} {gd : Option (List Code)} {cn : Str} {cs : Scope} {L a : Addr} {ccd : Value} {cl : List (Str × Addr)} {outer : List Env} {A₀ : Around}
  {base h₀ : Heap} {m : Str → Option Value} {s : Shared} {Q E : Value → Shared → Prop}

theorem e_opp {A : NA} {oP : Obj} {news : List (Addr × Obj)} {x y : Int} {tx ty : Tok} {ops : List (Int × Value)}
    (B : Below A₀ base outer h₀) (F : Fr h₀ L s.heap m) (X : (hd93.heap_1 w.params).In h₀) (N : News h₀ L s.heap news) (T : Top hd93.view_1 loose mean mg mb h₀) (hk : cs.kind = .function)
    (hG : (A.G, instObj 94 A.dG) ∈ news) (hdG : (A.dG, gatD w.params A) ∈ news) (hP : (A.P, oP) ∈ news) (lo : (A.P == sysModules) = false) (hM : oP.IsDictOf (intKind prog w) ops)
    (hI : ∀ v, valueAt ops x = some v → ∃ (j : Int) (t : Tok), v = .int j t)
    (hd : dp + 10 < recursionLimit) (hu : un + 80 < cLine)
    (ret1 : ∀ j u h' tk', valueAt ops x = some (.int j u) → Fr h₀ L h' m → News h₀ L h' news → Q (.bool (j == y)) { s with heap := h', toks := tk' })
    (ret2 : ∀ h' tk', valueAt ops x = none → Fr h₀ L h' m → News h₀ L h' news → Q (.bool (-1 == y)) { s with heap := h', toks := tk' }) :
    wpAny (model prog w) (ktrTop dp un gd cn cs L a ccd cl outer) (call (.ref 49) [.ref A.G, .int x tx, .int y ty]) Q E s := by
  refine wpAny_call ?_
  k_dflt ktr_enter
  rename Fr _ _ _ (fun y => List.lookup y _) => FN
  replace FN : Fr _ _ _ (fun y9 => List.lookup y9 [(Str.ofString "second", .int y ty), (Str.ofString "first", .int x tx), (Str.ofString "self", .ref A.G)]) := FN
  generalize (Shared.toks s + List.length _) = tk0
  k_steps
  all_goals first
    | exact ret1 _ _ _ _ (by assumption) (by k_asm) (by k_asm)
    | exact ret2 _ _ (by assumption) (by k_asm) (by k_asm)
end
end Mine93
-- Gate93q
namespace Mine93

theorem Kd.name_inj : ∀ {a b : Kd}, a.name = b.name → a = b := by
  intro a b
  cases a <;> cases b <;> intro h <;> first | rfl | exact absurd h (by decide +kernel)

theorem sem_lohi {kd : Kd} {V : Int → RF} {x y : Int} (h : kd = .and ∨ kd = .or ∨ kd = .xor) : kd.sem ([if y < x then y else x, if y > x then y else x].map V) = kd.sem [V x, V y] := by
  by_cases h1 : y < x
  · have h2 : ¬ y > x := by omega
    simp only [if_pos h1, if_neg h2, List.map_cons, List.map_nil]
    rcases h with rfl | rfl | rfl
    · exact funext fun i => Bool.and_comm _ _
    · exact funext fun i => Bool.or_comm _ _
    · refine funext fun i => ?_
      show (V y i != V x i) = (V x i != V y i)
      cases V y i <;> cases V x i <;> rfl
  · by_cases h2 : y > x
    · simp [h1, h2]
    · have : x = y := by omega
      subst this
      simp

section
variable {prog : Program} {w : World} {A : NA} {h₀ h : Heap} {L : Addr} {nt own news : List (Addr × Obj)} {gs : List (Int × RF)} {R : Nat}

theorem offFix_of {c : Nat} {tc : Tok} {oM oP : Obj} {cs : List Cell} {ec : Nat} {tl : List (Addr × Obj)} {V : Int → RF} {made : List (MKey × Addr × Value)} {ops : List (Int × Value)}
    (K : Core prog w A c oM oP cs tl V made ops) (N : News h₀ L h (own ++ fixed w.params A (c : Int) tc (cellsObj cs ec) oM oP tl)) (Ap : Apart own (fixed w.params A (c : Int) tc (cellsObj cs ec) oM oP tl)) : OffFix A (tl ++ own) := by
  have key : ∀ (a : Addr) (o : Obj), (a, o) ∈ fixed w.params A (c : Int) tc (cellsObj cs ec) oM oP tl → o.cls ≠ .type "tuple" → ∀ p ∈ tl ++ own, p.1 ≠ a := by
    intro a o hm hc p hp e
    rcases List.mem_append.mp hp with hp | hp
    · obtain ⟨vs, hv⟩ := K.tup p hp
      have h1 := (N p (List.mem_append_right _ (.tail _ (.tail _ (.tail _ (.tail _ (.tail _ (.tail _ (.tail _ hp))))))))).1
      have h2 := (N _ (List.mem_append_right _ hm)).1
      rw [e] at h1
      have h1 := h1.symm.trans h2
      rw [hv] at h1
      injection h1 with h1
      exact hc (congrArg Obj.cls h1).symm
    · exact Ap p hp _ hm e
  have cP : oP.cls ≠ .type "tuple" := by
    obtain ⟨_, _, e, _⟩ := K.oD
    rw [e.1]; decide
  exact ⟨key A.dN _ (.tail _ (.head _)) (by show Value.type "dict" ≠ _; decide), key A.C _ (.tail _ (.tail _ (.tail _ (.tail _ (.head _))))) (by show Value.type "list" ≠ _; decide),
    key A.M _ (.tail _ (.tail _ (.tail _ (.tail _ (.tail _ (.head _)))))) (by rw [K.mD.1.1]; decide), key A.P _ (.tail _ (.tail _ (.tail _ (.tail _ (.tail _ (.tail _ (.head _))))))) cP⟩

theorem sub_fixed {P : Params} {c : Int} {tc : Tok} {oC oM oP : Obj} {tl : List (Addr × Obj)} : ∀ p ∈ fixed P A c tc oC oM oP (tl ++ own), p ∈ own ++ fixed P A c tc oC oM oP tl := by
  intro p hp
  rw [show fixed P A c tc oC oM oP (tl ++ own) = fixed P A c tc oC oM oP tl ++ own from rfl] at hp
  exact List.mem_append.mpr ((List.mem_append.mp hp).symm)
theorem sub_fixed' {P : Params} {c : Int} {tc : Tok} {oC oM oP : Obj} {tl : List (Addr × Obj)} : ∀ p ∈ own ++ fixed P A c tc oC oM oP tl, p ∈ fixed P A c tc oC oM oP (tl ++ own) := by
  intro p hp
  rw [show fixed P A c tc oC oM oP (tl ++ own) = fixed P A c tc oC oM oP tl ++ own from rfl]
  exact List.mem_append.mpr ((List.mem_append.mp hp).symm)

theorem Net.gs_sub {gs' : List (Int × RF)} (h : Net prog w A nt gs R) (hs : ∀ p ∈ gs', p ∈ gs) : Net prog w A nt gs' R := by
  obtain ⟨c, tc, oM, oP, cs, ec, tl, V, made, ops, e, K, g, b⟩ := h
  exact ⟨c, tc, oM, oP, cs, ec, tl, V, made, ops, e, K, fun p hp => g p (hs p hp), b⟩
theorem Net.le {R' : Nat} (h : Net prog w A nt gs R) (hl : R' ≤ R) : Net prog w A nt gs R' := by
  obtain ⟨c, tc, oM, oP, cs, ec, tl, V, made, ops, e, K, g, b⟩ := h
  exact ⟨c, tc, oM, oP, cs, ec, tl, V, made, ops, e, K, g, by omega⟩
theorem Net.zero (h : Net prog w A nt gs R) : Net prog w A nt ((0, fF) :: gs) R := by
  obtain ⟨c, tc, oM, oP, cs, ec, tl, V, made, ops, e, K, g, b⟩ := h
  refine ⟨c, tc, oM, oP, cs, ec, tl, V, made, ops, e, K, fun p hp => ?_, b⟩
  rcases List.mem_cons.mp hp with rfl | hp
  · have := K.cnt
    exact ⟨by decide, by show (0 : Int) < _; omega, K.v0⟩
  · exact g p hp
theorem Net.one (h : Net prog w A nt gs R) : Net prog w A nt ((1, fT) :: gs) R := by
  obtain ⟨c, tc, oM, oP, cs, ec, tl, V, made, ops, e, K, g, b⟩ := h
  refine ⟨c, tc, oM, oP, cs, ec, tl, V, made, ops, e, K, fun p hp => ?_, b⟩
  rcases List.mem_cons.mp hp with rfl | hp
  · have := K.cnt
    exact ⟨by decide, by show (1 : Int) < _; omega, K.v1⟩
  · exact g p hp
theorem Net.add {n : Int} {f f' : RF} (h : Net prog w A nt gs R) (hm : (n, f) ∈ gs) (he : f = f') : Net prog w A nt ((n, f') :: gs) R :=
  h.gs_sub fun p hp => by
    rcases List.mem_cons.mp hp with rfl | hp
    · exact he ▸ hm
    · exact hp
theorem Net.eq01 {n : Int} {f : RF} (h : Net prog w A nt gs R) (hm : (n, f) ∈ gs) : (n = 0 → f = fF) ∧ (n = 1 → f = fT) := by
  obtain ⟨c, tc, oM, oP, cs, ec, tl, V, made, ops, e, K, g, b⟩ := h
  obtain ⟨_, _, e⟩ := g _ hm
  dsimp only at e
  exact ⟨fun q => by rw [← e, q, K.v0], fun q => by rw [← e, q, K.v1]⟩
theorem Net.same {n n' : Int} {f f' : RF} (h : Net prog w A nt gs R) (hm : (n, f) ∈ gs) (hm' : (n', f') ∈ gs) (e : n = n') : f = f' := by
  obtain ⟨c, tc, oM, oP, cs, ec, tl, V, made, ops, _, K, g, b⟩ := h
  obtain ⟨_, _, e1⟩ := g _ hm
  obtain ⟨_, _, e2⟩ := g _ hm'
  dsimp only at e1 e2
  rw [← e1, ← e2, e]
theorem Net.ret0 {f : RF} {R' : Nat} (h : Net prog w A nt gs R') (hl : R ≤ R') (he : f = fF) : Net prog w A nt ((0, f) :: gs) R := by subst he; exact h.zero.le hl
theorem Net.ret1 {f : RF} {R' : Nat} (h : Net prog w A nt gs R') (hl : R ≤ R') (he : f = fT) : Net prog w A nt ((1, f) :: gs) R := by subst he; exact h.one.le hl
theorem Net.retm {n : Int} {f f' : RF} {R' : Nat} (h : Net prog w A nt gs R') (hl : R ≤ R') (hm : (n, f) ∈ gs) (he : f = f') : Net prog w A nt ((n, f') :: gs) R := (h.add hm he).le hl
theorem Net.retn {n : Int} {f f' : RF} {gs' : List (Int × RF)} {R' : Nat} (h : Net prog w A nt ((n, f) :: gs') R') (hl : R ≤ R') (he : f = f') (hs : ∀ p ∈ gs, p ∈ gs') : Net prog w A nt ((n, f') :: gs) R := by
  subst he
  exact (h.gs_sub fun p hp => by
    rcases List.mem_cons.mp hp with rfl | hp
    · exact .head _
    · exact .tail _ (hs p hp)).le hl
theorem Net.mG (h : Net prog w A nt gs R) : (A.G, instObj 94 A.dG) ∈ nt := by
  obtain ⟨c, tc, oM, oP, cs, ec, tl, V, made, ops, rfl, K, g, b⟩ := h
  exact .tail _ (.tail _ (.head _))
theorem Net.mdG (h : Net prog w A nt gs R) : (A.dG, gatD w.params A) ∈ nt := by
  obtain ⟨c, tc, oM, oP, cs, ec, tl, V, made, ops, rfl, K, g, b⟩ := h
  exact .tail _ (.tail _ (.tail _ (.head _)))
theorem Net.nonneg {n : Int} {f : RF} (h : Net prog w A nt gs R) (hm : (n, f) ∈ gs) : 0 ≤ n := by
  obtain ⟨c, tc, oM, oP, cs, ec, tl, V, made, ops, e, K, g, b⟩ := h
  exact (g _ hm).1

theorem atKey_mem {made : List (MKey × Addr × Value)} {k : MKey} {p : Addr × Value} (h : atKey made k = some p) : (k, p) ∈ made := by
  unfold atKey at h
  obtain ⟨x, hx, e⟩ := Option.map_eq_some_iff.mp h
  have h1 := List.mem_of_find?_eq_some hx
  have h2 := List.find?_some hx
  have h2 : x.1 = k := by simpa using h2
  rw [← e, ← h2]; exact h1

theorem apart_new {own tl : List (Addr × Obj)} {P : Params} {c c' : Int} {tc tc' : Tok} {oC oC' oM oM' oP oP' : Obj} {l : List (Addr × Obj)} (Ap : Apart own (fixed P A c tc oC oM oP tl)) (h : ∀ q ∈ l, ∀ p ∈ tl ++ own, p.1 ≠ q.1) :
    Apart own (fixed P A c' tc' oC' oM' oP' (l ++ tl)) := by
  intro p hp q hq
  have z : ∀ (a : Addr) (o : Obj), (a, o) ∈ fixed P A c tc oC oM oP tl → p.1 ≠ a := fun a o hm => Ap p hp _ hm
  rcases List.mem_cons.mp hq with rfl | hq
  · exact z _ _ (.head _)
  rcases List.mem_cons.mp hq with rfl | hq
  · exact z _ _ (.tail _ (.head _))
  rcases List.mem_cons.mp hq with rfl | hq
  · exact z _ _ (.tail _ (.tail _ (.head _)))
  rcases List.mem_cons.mp hq with rfl | hq
  · exact z _ _ (.tail _ (.tail _ (.tail _ (.head _))))
  rcases List.mem_cons.mp hq with rfl | hq
  · exact z _ _ (.tail _ (.tail _ (.tail _ (.tail _ (.head _)))))
  rcases List.mem_cons.mp hq with rfl | hq
  · exact z _ _ (.tail _ (.tail _ (.tail _ (.tail _ (.tail _ (.head _))))))
  rcases List.mem_cons.mp hq with rfl | hq
  · exact z _ _ (.tail _ (.tail _ (.tail _ (.tail _ (.tail _ (.tail _ (.head _)))))))
  rcases List.mem_append.mp hq with hq | hq
  · exact h q hq p (List.mem_append_right _ hp)
  · exact z q.1 q.2 (.tail _ (.tail _ (.tail _ (.tail _ (.tail _ (.tail _ (.tail _ hq)))))))
theorem cells_push {cs : List Cell} {ec : Nat} {x : Cell} : cellsObj (cs ++ [x]) (ec + 1) = listOf ((cs.map fun x => Value.ref x.at_).toArray.push (.ref x.at_)) (ec + 1) := by
  simp [List.push_toArray]
end

section
variable {prog : Program} {w : World} {mg mb : Str → Option Value} {mean : ExcName → Option Value} {loose : List Str} {dp un : Nat} {gd : Option (List Code)} {cn : Str} {cs : Scope} {L a : Addr} {ccd : Value} {cl : List (Str × Addr)} {outer : List Env} {A₀ : Around}
  {base h₀ : Heap} {m : Str → Option Value} {s : Shared} {Q E : Value → Shared → Prop} {A : NA} {news own nt : List (Addr × Obj)} {gs : List (Int × RF)} {R : Nat}

theorem c_pair {x y : Int} {tx ty tk : Tok} {fx fy : RF} {kd : Kd} (hkd : kd = .and ∨ kd = .or ∨ kd = .xor)
    (B : Below A₀ base outer h₀) (F : Fr h₀ L s.heap m) (X : (hd93.heap_1 w.params).In h₀) (N : News h₀ L s.heap news) (T : Top hd93.view_1 loose mean mg mb h₀) (hk : cs.kind = .function)
    (Sp : Split news own nt) (Ap : Apart own nt) (NI : Net prog w A nt gs (R + 1)) (hx : (x, fx) ∈ gs) (hy : (y, fy) ∈ gs)
    (hd : dp + 10 < recursionLimit) (hu : un + 80 < cLine)
    (ret : ∀ r t nt' h' tk', Fr h₀ L h' m → News h₀ L h' (own ++ nt') → Apart own nt' → Net prog w A nt' ((r, kd.sem [fx, fy]) :: gs) R → Q (.int r t) { s with heap := h', toks := tk' }) :
    wpAny (model prog w) (ktrTop dp un gd cn cs L a ccd cl outer) (call (.ref 42) [.ref A.G, .str kd.name tk, .int x tx, .int y ty]) Q E s := by
  obtain ⟨c, tc, oM, oP, ces, ec, tl, V, made, ops, rfl, K, g, b⟩ := NI
  rw [Sp.eq] at N
  have OF := offFix_of K N Ap
  obtain ⟨hx0, hxc, hxv⟩ := g _ hx
  obtain ⟨hy0, hyc, hyv⟩ := g _ hy
  dsimp only at hx0 hxc hxv hy0 hyc hyv
  have hn : ∀ n ∈ [if y < x then y else x, if y > x then y else x], 0 ≤ n ∧ n < (c : Int) := by
    intro n hn
    simp only [List.mem_cons, List.not_mem_nil, or_false] at hn
    rcases hn with rfl | rfl <;> split <;> omega
  have hmc := K.mL
  have gext : ∀ {V' : Int → RF} {c' : Nat} {r : Int}, (∀ n : Int, 0 ≤ n → n < (c : Int) → V' n = V n) → c ≤ c' → 0 ≤ r → r < (c' : Int) → V' r = kd.sem [fx, fy] → ∀ p ∈ (r, kd.sem [fx, fy]) :: gs, 0 ≤ p.1 ∧ p.1 < (c' : Int) ∧ V' p.1 = p.2 := by
    intro V' c' r h1 h2 h3 h4 h5 p hp
    rcases List.mem_cons.mp hp with rfl | hp
    · exact ⟨h3, h4, h5⟩
    · obtain ⟨a1, a2, a3⟩ := g p hp
      exact ⟨a1, by omega, by rw [h1 _ a1 a2, a3]⟩
  refine e_pair B F X (news_sub N sub_fixed) T hk K.ord OF (K.mD.mono fun p hp => List.mem_append_left _ hp) (by omega) (by simp; omega) hd hu ?_ ?_
  · intro p h' tk' hp F' N'
    obtain ⟨kd', ns, r, t, e1, e2, e3, e4, e5, e6⟩ := K.mOk _ (atKey_mem hp)
    dsimp only at e1 e2
    injection e1 with e1 e1'
    have hkk : kd.name = kd'.name := Sum.inl.inj e1
    have hkk := Kd.name_inj hkk
    have hns : ns = [if y < x then y else x, if y > x then y else x] := by
      have : (ns.map Sum.inr : List (Str ⊕ Int)) = ([if y < x then y else x, if y > x then y else x] : List Int).map Sum.inr := e1'.symm
      exact List.map_inj_right (fun _ _ h => Sum.inr.inj h) |>.mp this
    subst hkk
    subst hns
    rw [sem_lohi hkd, hxv, hyv] at e6
    rw [e2]
    exact ret r t _ h' tk' F' (news_sub N' sub_fixed') Ap ⟨c, tc, oM, oP, ces, ec, tl, V, made, ops, rfl, K, gext (fun _ _ _ => rfl) (Nat.le_refl _) e3 e4 e6, by omega⟩
  · intro D1 D2 D3 t1 t2 t3 t4 h' tk' tc' oM' hno F' N' M' q1 q2 q3
    have hT : ∀ p ∈ (D1, tupOf [.str kd.name t1, .int (c : Int) t2, .ref D2, .none]) :: (D2, tupOf [.int (if y < x then y else x) t3, .int (if y > x then y else x) t4]) :: (D3, tupOf [.str kd.name t1, .int (if y < x then y else x) t3, .int (if y > x then y else x) t4]) :: tl, ∃ vs, p.2 = tupOf vs := by
      intro p hp
      rcases List.mem_cons.mp hp with rfl | hp
      · exact ⟨_, rfl⟩
      rcases List.mem_cons.mp hp with rfl | hp
      · exact ⟨_, rfl⟩
      rcases List.mem_cons.mp hp with rfl | hp
      · exact ⟨_, rfl⟩
      exact K.tup p hp
    have K1 := K.grow (x := ⟨kd, t1, (c : Int), t2, [(if y < x then y else x, t3), (if y > x then y else x, t4)], D1, D2⟩) rfl (by rcases hkd with rfl | rfl | rfl <;> rfl)
      (by
        intro p hp
        simp only [List.mem_cons, List.not_mem_nil, or_false] at hp
        rcases hp with rfl | rfl
        · exact hn _ (.head _)
        · exact hn _ (.tail _ (.head _))) hT (fun p hp => .tail _ (.tail _ (.tail _ hp))) (.head _) (.tail _ (.head _))
    have hV : kd.sem (([(if y < x then y else x, t3), (if y > x then y else x, t4)] : List (Int × Tok)).map fun p => V p.1) = kd.sem [fx, fy] := by
      have := sem_lohi (V := V) (x := x) (y := y) hkd
      rw [hxv, hyv] at this
      exact this
    rw [hV] at K1
    have K2 := K1.addMade (kd := kd) (ns := [if y < x then y else x, if y > x then y else x]) (r := (c : Int)) (t := t2) (ka := D3) (T := (D3, tupOf [.str kd.name t1, .int (if y < x then y else x) t3, .int (if y > x then y else x) t4]) :: tl) (oM' := oM')
      (by
        refine ⟨M'.1, M'.2.1, M'.2.2.1, fun x hx => ?_⟩
        obtain ⟨vs, h1, h2⟩ := M'.2.2.2 x hx
        rcases List.mem_append.mp hx with hx | hx
        · obtain ⟨vs', h1', h2'⟩ := K.mD.2.2.2 x hx
          exact ⟨vs', .tail _ h1', h2'⟩
        · rw [List.mem_singleton.mp hx]
          exact ⟨_, .head _, items3⟩)
      (fun p hp => by
        rcases List.mem_cons.mp hp with rfl | hp
        · exact .tail _ (.tail _ (.head _))
        · exact .tail _ (.tail _ (.tail _ hp))) (by rw [List.length_append]; exact Nat.succ_le_succ hmc) ⟨by omega, by push_cast; omega⟩ (fun n h => ⟨(hn n h).1, by have := (hn n h).2; push_cast; omega⟩)
      (by rw [upV_at, map_upV hn, sem_lohi hkd, hxv, hyv])
    have hl : ((D1, tupOf [.str kd.name t1, .int (c : Int) t2, .ref D2, .none]) :: (D2, tupOf [.int (if y < x then y else x) t3, .int (if y > x then y else x) t4]) :: (D3, tupOf [.str kd.name t1, .int (if y < x then y else x) t3, .int (if y > x then y else x) t4]) :: (tl ++ own) : List (Addr × Obj))
        = ((D1, tupOf [.str kd.name t1, .int (c : Int) t2, .ref D2, .none]) :: (D2, tupOf [.int (if y < x then y else x) t3, .int (if y > x then y else x) t4]) :: (D3, tupOf [.str kd.name t1, .int (if y < x then y else x) t3, .int (if y > x then y else x) t4]) :: tl) ++ own := rfl
    rw [hl] at N'
    refine ret (c : Int) t2 _ h' tk' F' (news_sub N' sub_fixed') (apart_new (l := [(D1, _), (D2, _), (D3, _)]) Ap ?_) ⟨c + 1, tc', oM', oP, _, ec + 1, _, _, _, ops, ?_, K2, ?_, ?_⟩
    · intro q hq
      simp only [List.mem_cons, List.not_mem_nil, or_false] at hq
      rcases hq with rfl | rfl | rfl
      · exact q1
      · exact q2
      · exact q3
    · rw [cells_push]; rfl
    · exact gext (fun n _ h => upV_lt h) (Nat.le_succ _) (by omega) (by push_cast; omega) upV_at
    · rw [List.length_append, List.length_singleton]; omega

theorem valueAt_mem {kvs : List (Int × Value)} {k : Int} {v : Value} (h : valueAt kvs k = some v) : (k, v) ∈ kvs := by
  unfold valueAt at h
  obtain ⟨x, hx, e⟩ := Option.map_eq_some_iff.mp h
  have h1 := List.mem_of_find?_eq_some hx
  have h2 := List.find?_some hx
  have h2 : x.1 = k := by simpa using h2
  rw [← e, ← h2]; exact h1

theorem c_opp {x y : Int} {tx ty : Tok} {fx fy : RF}
    (B : Below A₀ base outer h₀) (F : Fr h₀ L s.heap m) (X : (hd93.heap_1 w.params).In h₀) (N : News h₀ L s.heap news) (T : Top hd93.view_1 loose mean mg mb h₀) (hk : cs.kind = .function)
    (Sp : Split news own nt) (NI : Net prog w A nt gs R) (hx : (x, fx) ∈ gs) (hy : (y, fy) ∈ gs)
    (hd : dp + 10 < recursionLimit) (hu : un + 80 < cLine)
    (ret : ∀ b h' tk', (b = true → ∀ i, fx i = !fy i) → Fr h₀ L h' m → News h₀ L h' news → Q (.bool b) { s with heap := h', toks := tk' }) :
    wpAny (model prog w) (ktrTop dp un gd cn cs L a ccd cl outer) (call (.ref 49) [.ref A.G, .int x tx, .int y ty]) Q E s := by
  obtain ⟨c, tc, oM, oP, ces, ec, tl, V, made, ops, rfl, K, g, b⟩ := NI
  have hin : ∀ p ∈ fixed w.params A (c : Int) tc (cellsObj ces ec) oM oP tl, p ∈ news := fun p hp => by rw [Sp.eq]; exact List.mem_append_right _ hp
  obtain ⟨hx0, hxc, hxv⟩ := g _ hx
  obtain ⟨hy0, hyc, hyv⟩ := g _ hy
  dsimp only at hx0 hxc hxv hy0 hyc hyv
  refine e_opp B F X N T hk (hin _ (.tail _ (.tail _ (.head _)))) (hin _ (.tail _ (.tail _ (.tail _ (.head _))))) (hin _ (.tail _ (.tail _ (.tail _ (.tail _ (.tail _ (.tail _ (.head _)))))))) K.ord.lo2 K.oD (fun v hv => ?_) hd hu ?_ ?_
  · obtain ⟨j, t, e, _⟩ := K.oOk _ (valueAt_mem hv)
    exact ⟨j, t, e⟩
  · intro j u h' tk' hv F' N'
    refine ret _ h' tk' (fun hb i => ?_) F' N'
    have hj : j = y := by simpa using hb
    obtain ⟨j', t, e, _, _, _, _, e6⟩ := K.oOk _ (valueAt_mem hv)
    dsimp only at e e6
    injection e with e _
    rw [← hxv, ← hyv, e6 i, ← e, hj]
  · intro h' tk' hv F' N'
    refine ret _ h' tk' (fun hb i => ?_) F' N'
    have : (-1 : Int) = y := by simpa using hb
    omega

theorem c_inv {x : Int} {tx : Tok} {fx : RF}
    (B : Below A₀ base outer h₀) (F : Fr h₀ L s.heap m) (X : (hd93.heap_1 w.params).In h₀) (N : News h₀ L s.heap news) (T : Top hd93.view_1 loose mean mg mb h₀) (hk : cs.kind = .function)
    (Sp : Split news own nt) (Ap : Apart own nt) (NI : Net prog w A nt gs (R + 1)) (hx : (x, fx) ∈ gs)
    (hd : dp + 10 < recursionLimit) (hu : un + 80 < cLine)
    (ret : ∀ r t nt' h' tk', Fr h₀ L h' m → News h₀ L h' (own ++ nt') → Apart own nt' → Net prog w A nt' ((r, fun i => !fx i) :: gs) R → Q (.int r t) { s with heap := h', toks := tk' }) :
    wpAny (model prog w) (ktrTop dp un gd cn cs L a ccd cl outer) (call (.ref 56) [.ref A.G, .int x tx]) Q E s := by
  obtain ⟨c, tc, oM, oP, ces, ec, tl, V, made, ops, rfl, K, g, b⟩ := NI
  rw [Sp.eq] at N
  have OF := offFix_of K N Ap
  obtain ⟨hx0, hxc, hxv⟩ := g _ hx
  dsimp only at hx0 hxc hxv
  have hmc := K.mL
  have hol := K.oL
  have hcn := K.cnt
  have gext : ∀ {V' : Int → RF} {c' : Nat} {r : Int}, (∀ n : Int, 0 ≤ n → n < (c : Int) → V' n = V n) → c ≤ c' → 0 ≤ r → r < (c' : Int) → V' r = (fun i => !fx i) → ∀ p ∈ (r, fun i => !fx i) :: gs, 0 ≤ p.1 ∧ p.1 < (c' : Int) ∧ V' p.1 = p.2 := by
    intro V' c' r h1 h2 h3 h4 h5 p hp
    rcases List.mem_cons.mp hp with rfl | hp
    · exact ⟨h3, h4, h5⟩
    · obtain ⟨a1, a2, a3⟩ := g p hp
      exact ⟨a1, by omega, by rw [h1 _ a1 a2, a3]⟩
  refine e_inv B F X (news_sub N sub_fixed) T hk K.ord OF K.oD (by omega) (by simp; omega) hxc hd hu ?_ ?_ ?_
  · intro t h' tk' h01 F' N'
    refine ret (1 - x) t _ h' tk' F' (news_sub N' sub_fixed') Ap ⟨c, tc, oM, oP, ces, ec, tl, V, made, ops, rfl, K, gext (fun _ _ _ => rfl) (Nat.le_refl _) (by omega) (by omega) ?_, by omega⟩
    rcases h01 with rfl | rfl
    · rw [← hxv, K.v0]; exact K.v1
    · rw [← hxv, K.v1]; exact K.v0
  · intro v h' tk' _ hv F' N'
    obtain ⟨j, t, e, e2, e3, e4, e5, e6⟩ := K.oOk _ (valueAt_mem hv)
    dsimp only at e e2 e3 e6
    subst e
    exact ret j t _ h' tk' F' (news_sub N' sub_fixed') Ap ⟨c, tc, oM, oP, ces, ec, tl, V, made, ops, rfl, K, gext (fun _ _ _ => rfl) (Nat.le_refl _) e4 e5 (by funext i; rw [← hxv, e6 i, Bool.not_not]), by omega⟩
  · intro D1 D2 t1 t2 t3 t4 h' tk' tc' oP' h01 hno F' N' M' q1 q2
    have hT : ∀ p ∈ (D1, tupOf [.str (Str.ofString "not") t1, .int (c : Int) t2, .ref D2, .none]) :: (D2, tupOf [.int x t3]) :: tl, ∃ vs, p.2 = tupOf vs := by
      intro p hp
      rcases List.mem_cons.mp hp with rfl | hp
      · exact ⟨_, rfl⟩
      rcases List.mem_cons.mp hp with rfl | hp
      · exact ⟨_, rfl⟩
      exact K.tup p hp
    have K1 := K.grow (x := ⟨.inv, t1, (c : Int), t2, [(x, t3)], D1, D2⟩) rfl rfl
      (by
        intro p hp
        simp only [List.mem_cons, List.not_mem_nil, or_false] at hp
        rw [hp]; exact ⟨hx0, hxc⟩) hT (fun p hp => .tail _ (.tail _ hp)) (.head _) (.tail _ (.head _))
    have hV : Kd.inv.sem (([(x, t3)] : List (Int × Tok)).map fun p => V p.1) = fun i => !fx i := by
      show (fun i => !V x i) = _
      rw [hxv]
    rw [hV] at K1
    have K2 := K1.addOpp (x := x) (y := (c : Int)) M' (by rw [List.length_append, List.length_singleton]; omega) ⟨hx0, by push_cast; omega⟩ ⟨by omega, by push_cast; omega⟩
      (fun i => by rw [upV_at, upV_lt hxc, hxv, Bool.not_not])
    have hl : ((D1, tupOf [.str (Str.ofString "not") t1, .int (c : Int) t2, .ref D2, .none]) :: (D2, tupOf [.int x t3]) :: (tl ++ own) : List (Addr × Obj))
        = ((D1, tupOf [.str (Str.ofString "not") t1, .int (c : Int) t2, .ref D2, .none]) :: (D2, tupOf [.int x t3]) :: tl) ++ own := rfl
    rw [hl] at N'
    refine ret (c : Int) t2 _ h' tk' F' (news_sub N' sub_fixed') (apart_new (l := [(D1, _), (D2, _)]) Ap ?_) ⟨c + 1, tc', oM, oP', _, ec + 1, _, _, made, _, ?_, K2, ?_, ?_⟩
    · intro q hq
      simp only [List.mem_cons, List.not_mem_nil, or_false] at hq
      rcases hq with rfl | rfl
      · exact q1
      · exact q2
    · rw [cells_push]; rfl
    · exact gext (fun n _ h => upV_lt h) (Nat.le_succ _) (by omega) (by push_cast; omega) upV_at
    · rw [List.length_append, List.length_singleton]; omega
end

section
variable {prog : Program} {w : World} {A : NA} {own : List (Addr × Obj)} {gs : List (Int × RF)} {R c : Nat} {tc : Tok} {oM oP : Obj} {ces : List Cell} {ec : Nat} {tl : List (Addr × Obj)} {V : Int → RF} {made : List (MKey × Addr × Value)} {ops : List (Int × Value)}

theorem made_found (kd : Kd) (ns : List Int) {p : Addr × Value} (K : Core prog w A c oM oP ces tl V made ops) (hp : atKey made (.inl kd.name :: ns.map .inr) = some p) :
    ∃ (r : Int) (t : Tok), p.2 = .int r t ∧ 0 ≤ r ∧ r < (c : Int) ∧ V r = kd.sem (ns.map V) := by
  obtain ⟨kd', ns', r, t, e1, e2, e3, e4, e5, e6⟩ := K.mOk _ (atKey_mem hp)
  dsimp only at e1 e2
  injection e1 with e1 e1'
  have hkk := Kd.name_inj (Sum.inl.inj e1)
  have hns : ns = ns' := List.map_inj_right (fun _ _ h => Sum.inr.inj h) |>.mp e1'
  subst hkk
  subst hns
  exact ⟨r, t, e2, e3, e4, e6⟩

theorem net_found (kd : Kd) (ns : List Int) {p : Addr × Value} (K : Core prog w A c oM oP ces tl V made ops) (g : ∀ p ∈ gs, 0 ≤ p.1 ∧ p.1 < (c : Int) ∧ V p.1 = p.2) (b : ces.length + R ≤ 100000) {R' : Nat} (hR : R' ≤ R) {f : RF} (hf : kd.sem (ns.map V) = f)
    (hp : atKey made (.inl kd.name :: ns.map .inr) = some p) : ∃ (r : Int) (t : Tok), p.2 = .int r t ∧ Net prog w A (fixed w.params A (c : Int) tc (cellsObj ces ec) oM oP tl) ((r, f) :: gs) R' := by
  obtain ⟨r, t, e1, e2, e3, e4⟩ := made_found kd ns K hp
  refine ⟨r, t, e1, c, tc, oM, oP, ces, ec, tl, V, made, ops, rfl, K, fun p hp => ?_, by omega⟩
  rcases List.mem_cons.mp hp with rfl | hp
  · exact ⟨e2, e3, e4.trans hf⟩
  · exact g p hp

theorem net_new (kd : Kd) (ins : List (Int × Tok)) {D1 D2 D3 : Addr} {t1 t2 tc' : Tok} {oM' : Obj} {kv : List Value} {f : RF} (K : Core prog w A c oM oP ces tl V made ops) (g : ∀ p ∈ gs, 0 ≤ p.1 ∧ p.1 < (c : Int) ∧ V p.1 = p.2) (b : ces.length + R ≤ 100000) {R' : Nat} (hR : R' + 1 ≤ R)
    (har : ins.length = kd.arity) (hn : ∀ p ∈ ins, 0 ≤ p.1 ∧ p.1 < (c : Int)) (hf : kd.sem (ins.map fun p => V p.1) = f)
    (M' : MadeOf prog w oM' (made ++ [(.inl kd.name :: (ins.map (·.1)).map .inr, D3, .int (c : Int) t2)]) ((D3, tupOf kv) :: (tl ++ own))) (hi : PySem.ItemsAre (siKind prog w) (.inl kd.name :: (ins.map (·.1)).map .inr) kv) :
    Net prog w A (fixed w.params A ((c : Int) + 1) tc' (listOf ((ces.map fun x => Value.ref x.at_).toArray.push (.ref D1)) (ec + 1)) oM' oP
      ((D1, tupOf [.str kd.name t1, .int (c : Int) t2, .ref D2, .none]) :: (D2, tupOf (ivals ins)) :: (D3, tupOf kv) :: tl)) (((c : Int), f) :: gs) R' := by
  have hmc := K.mL
  have hT : ∀ p ∈ (D1, tupOf [.str kd.name t1, .int (c : Int) t2, .ref D2, .none]) :: (D2, tupOf (ivals ins)) :: (D3, tupOf kv) :: tl, ∃ vs, p.2 = tupOf vs := by
    intro p hp
    rcases List.mem_cons.mp hp with rfl | hp
    · exact ⟨_, rfl⟩
    rcases List.mem_cons.mp hp with rfl | hp
    · exact ⟨_, rfl⟩
    rcases List.mem_cons.mp hp with rfl | hp
    · exact ⟨_, rfl⟩
    exact K.tup p hp
  have K1 := K.grow (x := ⟨kd, t1, (c : Int), t2, ins, D1, D2⟩) rfl har hn hT (fun p hp => .tail _ (.tail _ (.tail _ hp))) (.head _) (.tail _ (.head _))
  have hV : kd.sem (ins.map fun p => V p.1) = f := hf
  rw [hV] at K1
  have hm : (ins.map (·.1)).map V = ins.map fun p => V p.1 := by rw [List.map_map]; rfl
  have hn' : ∀ n ∈ ins.map (·.1), 0 ≤ n ∧ n < (c : Int) := by
    intro n h
    obtain ⟨p, hp, rfl⟩ := List.mem_map.mp h
    exact hn p hp
  have K2 := K1.addMade (kd := kd) (ns := ins.map (·.1)) (r := (c : Int)) (t := t2) (ka := D3) (T := (D3, tupOf kv) :: tl) (oM' := oM')
    (by
      refine ⟨M'.1, M'.2.1, M'.2.2.1, fun x hx => ?_⟩
      rcases List.mem_append.mp hx with hx | hx
      · obtain ⟨vs', h1', h2'⟩ := K.mD.2.2.2 x hx
        exact ⟨vs', .tail _ h1', h2'⟩
      · rw [List.mem_singleton.mp hx]
        exact ⟨_, .head _, hi⟩)
    (fun p hp => by
      rcases List.mem_cons.mp hp with rfl | hp
      · exact .tail _ (.tail _ (.head _))
      · exact .tail _ (.tail _ (.tail _ hp))) (by rw [List.length_append]; exact Nat.succ_le_succ hmc) ⟨by omega, by push_cast; omega⟩ (fun n h => ⟨(hn' n h).1, by have := (hn' n h).2; push_cast; omega⟩)
    (by rw [upV_at, map_upV hn', hm, hV])
  refine ⟨c + 1, tc', oM', oP, _, ec + 1, _, _, _, ops, ?_, K2, fun p hp => ?_, ?_⟩
  · rw [cells_push]; rfl
  · rcases List.mem_cons.mp hp with rfl | hp
    · exact ⟨by show (0 : Int) ≤ (c : Int); omega, by push_cast; omega, upV_at⟩
    · obtain ⟨a1, a2, a3⟩ := g p hp
      exact ⟨a1, by push_cast; omega, by rw [upV_lt a2, a3]⟩
  · rw [List.length_append, List.length_singleton]; omega

theorem hi_to {D : Addr} {l : List (Addr × Obj)} (h : Hi D l) : ∀ p ∈ l, p.1 < D := h
theorem hi_flip {P : Params} {D : Addr} {c : Int} {tc : Tok} {oC oM oP : Obj} (h : Hi D (own ++ fixed P A c tc oC oM oP tl)) : Hi D (fixed P A c tc oC oM oP (tl ++ own)) := fun p hp => h p (sub_fixed p hp)
theorem news_flip {P : Params} {h₀ h : Heap} {L D : Addr} {o : Obj} {c : Int} {tc : Tok} {oC oM oP : Obj} (N : News h₀ L h ((D, o) :: (own ++ fixed P A c tc oC oM oP tl))) : News h₀ L h ((D, o) :: fixed P A c tc oC oM oP (tl ++ own)) := fun p hp => N p (by
  rcases List.mem_cons.mp hp with rfl | hp
  · exact .head _
  · exact .tail _ (sub_fixed p hp))
end

/-! comprehensions whose elements make gates -/
def OffM (I C D : Addr) (l : List (Addr × Obj)) : Prop := ∀ p ∈ l, p.1 ≠ I ∧ p.1 ≠ C ∧ p.1 ≠ D
theorem offM_of {I C D : Addr} {l : List (Addr × Obj)} (h : LCg.Off3 I C D l) : OffM I C D l := h.mem
def OffD (D : Addr) (l : List (Addr × Obj)) : Prop := ∀ p ∈ l, p.1 ≠ D
theorem offD_of {D : Addr} : ∀ {l : List (Addr × Obj)}, LCg.Off1 D l → OffD D l
  | [], _ => fun _ h => nomatch h
  | _ :: _, h => fun p hp => by
    rcases List.mem_cons.mp hp with rfl | hp
    · exact h.1
    · exact offD_of h.2 p hp
theorem OffM.notI {I C D : Addr} {l nt : List (Addr × Obj)} (h : OffM I C D l) (hs : ∀ p ∈ nt, p ∈ l) : ∀ q ∈ nt, I ≠ q.1 := fun q hq e => (h q (hs q hq)).1 e.symm
theorem OffM.notC {I C D : Addr} {l nt : List (Addr × Obj)} (h : OffM I C D l) (hs : ∀ p ∈ nt, p ∈ l) : ∀ q ∈ nt, C ≠ q.1 := fun q hq e => (h q (hs q hq)).2.1 e.symm
theorem OffM.notD {I C D : Addr} {l nt : List (Addr × Obj)} (h : OffM I C D l) (hs : ∀ p ∈ nt, p ∈ l) : ∀ q ∈ nt, D ≠ q.1 := fun q hq e => (h q (hs q hq)).2.2 e.symm
theorem OffD.not {D : Addr} {l nt : List (Addr × Obj)} (h : OffD D l) (hs : ∀ p ∈ nt, p ∈ l) : ∀ q ∈ nt, D ≠ q.1 := fun q hq e => h q (hs q hq) e.symm
theorem Hi.not {D : Addr} {l nt : List (Addr × Obj)} (h : Hi D l) (hs : ∀ p ∈ nt, p ∈ l) : ∀ q ∈ nt, D ≠ q.1 := fun q hq e => Nat.lt_irrefl _ (e ▸ h q (hs q hq) : @LT.lt Nat _ q.1 q.1)
theorem Split.own {news own nt : List (Addr × Obj)} (h : Split news own nt) : ∀ p ∈ own, p ∈ news := fun p hp => by rw [h.eq]; exact List.mem_append_left _ hp
theorem Split.nt {news own nt : List (Addr × Obj)} (h : Split news own nt) : ∀ p ∈ nt, p ∈ news := fun p hp => by rw [h.eq]; exact List.mem_append_right _ hp
theorem off3_next {I C D : Addr} {oI oC oD : Obj} {news news' pre nt' : List (Addr × Obj)} (Sp : Split news' pre nt') (o : OffM I C D news) (hs : ∀ p ∈ pre, p ∈ news) (a : Apart ((I, oI) :: (C, oC) :: (D, oD) :: pre) nt') :
    LCg.Off3 I C D news' := LCg.Off3.of fun p hp => by
  rw [Sp.eq] at hp
  rcases List.mem_append.mp hp with hp | hp
  · exact o p (hs p hp)
  · exact ⟨fun e => a _ (.head _) p hp e.symm, fun e => a _ (.tail _ (.head _)) p hp e.symm, fun e => a _ (.tail _ (.tail _ (.head _))) p hp e.symm⟩
theorem sub_appL {own nt : List (Addr × Obj)} : ∀ p ∈ own, p ∈ own ++ nt := fun _ h => List.mem_append_left _ h
theorem sub_appR {own nt : List (Addr × Obj)} : ∀ p ∈ nt, p ∈ own ++ nt := fun _ h => List.mem_append_right _ h
theorem Apart.nil {nt : List (Addr × Obj)} : Apart [] nt := fun _ h => nomatch h
theorem Apart.cons {a : Addr} {o : Obj} {own nt : List (Addr × Obj)} (h : ∀ q ∈ nt, a ≠ q.1) (t : Apart own nt) : Apart ((a, o) :: own) nt := fun p hp => by
  rcases List.mem_cons.mp hp with rfl | hp
  · exact h
  · exact t p hp
theorem Apart.at {a : Addr} {o : Obj} {own nt : List (Addr × Obj)} (t : Apart own nt) (h : (a, o) ∈ own) : ∀ q ∈ nt, a ≠ q.1 := t _ h
theorem gsub_tail {T l : List (Int × RF)} {x : Int × RF} (h : ∀ p ∈ T, p ∈ l) : ∀ p ∈ T, p ∈ x :: l := fun p hp => .tail _ (h p hp)
theorem gsub_cons {T l : List (Int × RF)} {x : Int × RF} (h : x ∈ l) (h' : ∀ p ∈ T, p ∈ l) : ∀ p ∈ x :: T, p ∈ l := fun p hp => by
  rcases List.mem_cons.mp hp with rfl | hp
  · exact h
  · exact h' p hp
theorem Apart.sub {own own' nt : List (Addr × Obj)} (t : Apart own' nt) (hs : ∀ p ∈ own, p ∈ own') : Apart own nt := fun p hp => t p (hs p hp)
theorem Apart.tail {x : Addr × Obj} {own nt : List (Addr × Obj)} (t : Apart (x :: own) nt) : Apart own nt := fun p hp => t p (.tail _ hp)
theorem Apart.ne {a : Addr} {o : Obj} {own nt : List (Addr × Obj)} (t : Apart own nt) (h : (a, o) ∈ own) : ∀ p ∈ nt, p.1 ≠ a := fun p hp e => t _ h p hp e.symm

section
variable {prog : Program} {w : World} {A : Around} {E : Value → Shared → Prop} {s : Shared} {h₀ : Heap} {L l : Addr} {news : List (Addr × Obj)} {its : Array Value} {n : Nat} {k : Int} {u : Tok} {v : Value} {Q : Value → Shared → Prop} {value slice : Expr}
theorem isList_own (N : News h₀ L s.heap news) (hm : (l, listOf its n) ∈ news) : s.heap.IsList l its := ⟨_, (N _ hm).1, rfl, _, rfl⟩
theorem item_own {vs : List Value} (N : News h₀ L s.heap news) (hm : (l, listOf vs.toArray n) ∈ news) (h0 : 0 ≤ k) (h1 : k < 2 ^ 63) (hx : vs[k.toNat]? = some v) (h : Q v s)
    (hs : subscripted slice false (.ref l) (.int k u) = operate [.ref l, .int k u] (getItem (.ref l) (.int k u)) := by with_unfolding_all rfl) :
    wpAny (model prog w) A (subscriptTail value slice (.ref l) (.int k u)) Q E s :=
  tail_any (isList_own N hm).typeIs slot_list_getitem.lookup (wpAny_getItem_list (isList_own N hm) h0 h1 (by simpa using hx) h) hs
theorem item_own_neg {vs : List Value} (N : News h₀ L s.heap news) (hm : (l, listOf vs.toArray n) ∈ news) (h0 : k < 0) (h1 : -(vs.length : Int) ≤ k) (h2 : -(2 ^ 63) ≤ k) (hx : vs[(k + vs.length).toNat]? = some v) (h : Q v s)
    (hs : subscripted slice false (.ref l) (.int k u) = operate [.ref l, .int k u] (getItem (.ref l) (.int k u)) := by with_unfolding_all rfl) :
    wpAny (model prog w) A (subscriptTail value slice (.ref l) (.int k u)) Q E s :=
  tail_any (isList_own N hm).typeIs slot_list_getitem.lookup (wpAny_getItem_list_neg (isList_own N hm) h0 (by simpa using h1) h2 (by simpa using hx) h) hs
end

/-! what the walk's order facts say of a ledger's tail -/
theorem lt0 {a : Addr} {l : List (Addr × Obj)} (h : AllLt a l) : ∀ p ∈ l, @LT.lt Nat _ p.1 a := ktn_ltOf h
theorem lt1 {a : Addr} {l : List (Addr × Obj)} {P0 : Prop} (h : P0 ∧ AllLt a l) : ∀ p ∈ l, @LT.lt Nat _ p.1 a := ktn_ltOf h.2
theorem lt2 {a : Addr} {l : List (Addr × Obj)} {P0 P1 : Prop} (h : P0 ∧ P1 ∧ AllLt a l) : ∀ p ∈ l, @LT.lt Nat _ p.1 a := ktn_ltOf h.2.2
theorem lt3 {a : Addr} {l : List (Addr × Obj)} {P0 P1 P2 : Prop} (h : P0 ∧ P1 ∧ P2 ∧ AllLt a l) : ∀ p ∈ l, @LT.lt Nat _ p.1 a := ktn_ltOf h.2.2.2
theorem lt4 {a : Addr} {l : List (Addr × Obj)} {P0 P1 P2 P3 : Prop} (h : P0 ∧ P1 ∧ P2 ∧ P3 ∧ AllLt a l) : ∀ p ∈ l, @LT.lt Nat _ p.1 a := ktn_ltOf h.2.2.2.2
theorem lt5 {a : Addr} {l : List (Addr × Obj)} {P0 P1 P2 P3 P4 : Prop} (h : P0 ∧ P1 ∧ P2 ∧ P3 ∧ P4 ∧ AllLt a l) : ∀ p ∈ l, @LT.lt Nat _ p.1 a := ktn_ltOf h.2.2.2.2.2
theorem lt6 {a : Addr} {l : List (Addr × Obj)} {P0 P1 P2 P3 P4 P5 : Prop} (h : P0 ∧ P1 ∧ P2 ∧ P3 ∧ P4 ∧ P5 ∧ AllLt a l) : ∀ p ∈ l, @LT.lt Nat _ p.1 a := ktn_ltOf h.2.2.2.2.2.2
theorem lt7 {a : Addr} {l : List (Addr × Obj)} {P0 P1 P2 P3 P4 P5 P6 : Prop} (h : P0 ∧ P1 ∧ P2 ∧ P3 ∧ P4 ∧ P5 ∧ P6 ∧ AllLt a l) : ∀ p ∈ l, @LT.lt Nat _ p.1 a := ktn_ltOf h.2.2.2.2.2.2.2
theorem lt8 {a : Addr} {l : List (Addr × Obj)} {P0 P1 P2 P3 P4 P5 P6 P7 : Prop} (h : P0 ∧ P1 ∧ P2 ∧ P3 ∧ P4 ∧ P5 ∧ P6 ∧ P7 ∧ AllLt a l) : ∀ p ∈ l, @LT.lt Nat _ p.1 a := ktn_ltOf h.2.2.2.2.2.2.2.2
theorem lt9 {a : Addr} {l : List (Addr × Obj)} {P0 P1 P2 P3 P4 P5 P6 P7 P8 : Prop} (h : P0 ∧ P1 ∧ P2 ∧ P3 ∧ P4 ∧ P5 ∧ P6 ∧ P7 ∧ P8 ∧ AllLt a l) : ∀ p ∈ l, @LT.lt Nat _ p.1 a := ktn_ltOf h.2.2.2.2.2.2.2.2.2
theorem lt10 {a : Addr} {l : List (Addr × Obj)} {P0 P1 P2 P3 P4 P5 P6 P7 P8 P9 : Prop} (h : P0 ∧ P1 ∧ P2 ∧ P3 ∧ P4 ∧ P5 ∧ P6 ∧ P7 ∧ P8 ∧ P9 ∧ AllLt a l) : ∀ p ∈ l, @LT.lt Nat _ p.1 a := ktn_ltOf h.2.2.2.2.2.2.2.2.2.2
theorem lt11 {a : Addr} {l : List (Addr × Obj)} {P0 P1 P2 P3 P4 P5 P6 P7 P8 P9 P10 : Prop} (h : P0 ∧ P1 ∧ P2 ∧ P3 ∧ P4 ∧ P5 ∧ P6 ∧ P7 ∧ P8 ∧ P9 ∧ P10 ∧ AllLt a l) : ∀ p ∈ l, @LT.lt Nat _ p.1 a := ktn_ltOf h.2.2.2.2.2.2.2.2.2.2.2
theorem lt12 {a : Addr} {l : List (Addr × Obj)} {P0 P1 P2 P3 P4 P5 P6 P7 P8 P9 P10 P11 : Prop} (h : P0 ∧ P1 ∧ P2 ∧ P3 ∧ P4 ∧ P5 ∧ P6 ∧ P7 ∧ P8 ∧ P9 ∧ P10 ∧ P11 ∧ AllLt a l) : ∀ p ∈ l, @LT.lt Nat _ p.1 a := ktn_ltOf h.2.2.2.2.2.2.2.2.2.2.2.2
theorem lt13 {a : Addr} {l : List (Addr × Obj)} {P0 P1 P2 P3 P4 P5 P6 P7 P8 P9 P10 P11 P12 : Prop} (h : P0 ∧ P1 ∧ P2 ∧ P3 ∧ P4 ∧ P5 ∧ P6 ∧ P7 ∧ P8 ∧ P9 ∧ P10 ∧ P11 ∧ P12 ∧ AllLt a l) : ∀ p ∈ l, @LT.lt Nat _ p.1 a := ktn_ltOf h.2.2.2.2.2.2.2.2.2.2.2.2.2
theorem lt14 {a : Addr} {l : List (Addr × Obj)} {P0 P1 P2 P3 P4 P5 P6 P7 P8 P9 P10 P11 P12 P13 : Prop} (h : P0 ∧ P1 ∧ P2 ∧ P3 ∧ P4 ∧ P5 ∧ P6 ∧ P7 ∧ P8 ∧ P9 ∧ P10 ∧ P11 ∧ P12 ∧ P13 ∧ AllLt a l) : ∀ p ∈ l, @LT.lt Nat _ p.1 a := ktn_ltOf h.2.2.2.2.2.2.2.2.2.2.2.2.2.2
theorem lt15 {a : Addr} {l : List (Addr × Obj)} {P0 P1 P2 P3 P4 P5 P6 P7 P8 P9 P10 P11 P12 P13 P14 : Prop} (h : P0 ∧ P1 ∧ P2 ∧ P3 ∧ P4 ∧ P5 ∧ P6 ∧ P7 ∧ P8 ∧ P9 ∧ P10 ∧ P11 ∧ P12 ∧ P13 ∧ P14 ∧ AllLt a l) : ∀ p ∈ l, @LT.lt Nat _ p.1 a := ktn_ltOf h.2.2.2.2.2.2.2.2.2.2.2.2.2.2.2
theorem lt16 {a : Addr} {l : List (Addr × Obj)} {P0 P1 P2 P3 P4 P5 P6 P7 P8 P9 P10 P11 P12 P13 P14 P15 : Prop} (h : P0 ∧ P1 ∧ P2 ∧ P3 ∧ P4 ∧ P5 ∧ P6 ∧ P7 ∧ P8 ∧ P9 ∧ P10 ∧ P11 ∧ P12 ∧ P13 ∧ P14 ∧ P15 ∧ AllLt a l) : ∀ p ∈ l, @LT.lt Nat _ p.1 a := ktn_ltOf h.2.2.2.2.2.2.2.2.2.2.2.2.2.2.2.2
theorem lt17 {a : Addr} {l : List (Addr × Obj)} {P0 P1 P2 P3 P4 P5 P6 P7 P8 P9 P10 P11 P12 P13 P14 P15 P16 : Prop} (h : P0 ∧ P1 ∧ P2 ∧ P3 ∧ P4 ∧ P5 ∧ P6 ∧ P7 ∧ P8 ∧ P9 ∧ P10 ∧ P11 ∧ P12 ∧ P13 ∧ P14 ∧ P15 ∧ P16 ∧ AllLt a l) : ∀ p ∈ l, @LT.lt Nat _ p.1 a := ktn_ltOf h.2.2.2.2.2.2.2.2.2.2.2.2.2.2.2.2.2
theorem lt18 {a : Addr} {l : List (Addr × Obj)} {P0 P1 P2 P3 P4 P5 P6 P7 P8 P9 P10 P11 P12 P13 P14 P15 P16 P17 : Prop} (h : P0 ∧ P1 ∧ P2 ∧ P3 ∧ P4 ∧ P5 ∧ P6 ∧ P7 ∧ P8 ∧ P9 ∧ P10 ∧ P11 ∧ P12 ∧ P13 ∧ P14 ∧ P15 ∧ P16 ∧ P17 ∧ AllLt a l) : ∀ p ∈ l, @LT.lt Nat _ p.1 a := ktn_ltOf h.2.2.2.2.2.2.2.2.2.2.2.2.2.2.2.2.2.2
theorem lt19 {a : Addr} {l : List (Addr × Obj)} {P0 P1 P2 P3 P4 P5 P6 P7 P8 P9 P10 P11 P12 P13 P14 P15 P16 P17 P18 : Prop} (h : P0 ∧ P1 ∧ P2 ∧ P3 ∧ P4 ∧ P5 ∧ P6 ∧ P7 ∧ P8 ∧ P9 ∧ P10 ∧ P11 ∧ P12 ∧ P13 ∧ P14 ∧ P15 ∧ P16 ∧ P17 ∧ P18 ∧ AllLt a l) : ∀ p ∈ l, @LT.lt Nat _ p.1 a := ktn_ltOf h.2.2.2.2.2.2.2.2.2.2.2.2.2.2.2.2.2.2.2
theorem not_of_lt {a : Addr} {l nt : List (Addr × Obj)} (h : ∀ p ∈ l, @LT.lt Nat _ p.1 a) (hs : ∀ p ∈ nt, p ∈ l) : ∀ q ∈ nt, a ≠ q.1 := fun q hq e => Nat.lt_irrefl _ (e ▸ h q (hs q hq) : @LT.lt Nat _ q.1 q.1)
theorem ne_of_lt' {a : Addr} {l nt : List (Addr × Obj)} (h : ∀ p ∈ l, @LT.lt Nat _ p.1 a) (hs : ∀ p ∈ nt, p ∈ l) : ∀ q ∈ nt, q.1 ≠ a := fun q hq => Nat.ne_of_lt (h q (hs q hq))
theorem all_app {P : Addr × Obj → Prop} {own nt : List (Addr × Obj)} (h : ∀ p ∈ own, P p) (h' : ∀ p ∈ nt, P p) : ∀ p ∈ own ++ nt, P p := fun p hp => (List.mem_append.mp hp).elim (h p) (h' p)

theorem sub_int_k {prog : Program} {w : World} {A : Around} {E : Value → Shared → Prop} {s : Shared} {a b k : Int} {t u : Tok} {Q : Value → Shared → Prop} (hk : a - b = k) (h : Q (.int k s.toks) { s with toks := s.toks + 1 }) :
    wpAny (model prog w) A (binaryOp .Sub (.int a t) (.int b u)) Q E s := sub_int (by rw [hk]; exact h)

inductive Pull (x : Addr × Obj) : List (Addr × Obj) → List (Addr × Obj) → Prop
  | here {l} : Pull x (x :: l) l
  | next {y l r} : Pull x l r → Pull x (y :: l) (y :: r)
theorem Pull.sub {x : Addr × Obj} {l r : List (Addr × Obj)} (h : Pull x l r) : ∀ p ∈ x :: r, p ∈ l := by
  induction h with
  | here => exact fun _ h => h
  | next _ ih =>
    intro p hp
    rcases List.mem_cons.mp hp with rfl | hp
    · exact .tail _ (ih _ (.head _))
    · rcases List.mem_cons.mp hp with rfl | hp
      · exact .head _
      · exact .tail _ (ih _ (.tail _ hp))
theorem unr_end {h₀ : Heap} {L I : Addr} {it : Obj} {rest : (Str → Option Value) → List (Addr × Obj) → Prop} {s₁ : Shared} {h' : Heap} {tk : Nat} {m' : Str → Option Value} {all news' : List (Addr × Obj)} (F : Fr h₀ L h' m') (N : News h₀ L h' all)
    (pull : Pull (I, it) all news') (off : ∀ p ∈ news', p.1 ≠ I) (r : rest m' news') : UnrEnd h₀ L s₁ I it rest { s₁ with heap := h', toks := tk } := .intro F N news' pull.sub off r
theorem ne_lt' {a b : Addr} (h : (a : Nat) < b) : a ≠ b := fun e => Nat.lt_irrefl _ (e ▸ h)
theorem ne_gt' {a b : Addr} (h : (b : Nat) < a) : a ≠ b := fun e => Nat.lt_irrefl _ (e ▸ h)
inductive InA (a : Addr) : List (Addr × Obj) → Prop
  | here {o l} : InA a ((a, o) :: l)
  | next {x l} : InA a l → InA a (x :: l)
theorem OffD.at {D a : Addr} {l : List (Addr × Obj)} (h : OffD D l) (m : InA a l) : a ≠ D := by
  induction m with
  | here => exact h _ List.mem_cons_self
  | next _ ih => exact ih fun p hp => h p (List.mem_cons_of_mem _ hp)
theorem OffD.at' {D a : Addr} {l : List (Addr × Obj)} (h : OffD D l) (m : InA a l) : D ≠ a := fun e => h.at m e.symm
theorem OffD.ne' {D : Addr} {l nt : List (Addr × Obj)} (h : OffD D l) (hs : ∀ p ∈ nt, p ∈ l) : ∀ q ∈ nt, q.1 ≠ D := fun q hq => h q (hs q hq)
theorem off1_of {D : Addr} : ∀ {l : List (Addr × Obj)}, (∀ p ∈ l, p.1 ≠ D) → LCg.Off1 D l
  | [], _ => trivial
  | _ :: _, h => ⟨h _ List.mem_cons_self, off1_of fun p hp => h p (List.mem_cons_of_mem _ hp)⟩
theorem comp_end {h₀ : Heap} {L I C D : Addr} {m : Str → Option Value} {s₁ : Shared} {oI oC oD : Obj} {S : List (Addr × Obj) → Prop} {rest : Value → List (Addr × Obj) → Prop} {y : Value} {h' : Heap} {tk : Nat} {news' : List (Addr × Obj)}
    (F : Fr h₀ L h' m) (N : News h₀ L h' ((I, oI) :: (C, oC) :: (D, oD) :: news')) (off : LCg.Off3 I C D news') (hS : S news') (r : rest y news') : LCg.CompEnd h₀ L m s₁ I oI C oC D oD S rest y { s₁ with heap := h', toks := tk } :=
  .intro F N news' (fun _ h => h) off hS r

theorem rr_succ {prog : Program} {w : World} {A : Around} {E : Value → Shared → Prop} {s : Shared} {env : Env} {h₀ : Heap} {x : Str} {body : List Stmt} {Q : Flow → Shared → Prop} {I : Addr} {a v : Int} {n k i : Nat} {m : Str → Option Value} {news : List (Addr × Obj)} (hv : a + (i : Int) = v)
    (h : ∀ t h tk, Fr h₀ env.locals h (fun y => if y = x then some (.int v t) else m y) →
      News h₀ env.locals h ((I, itR (a + ((i + 1 : Nat) : Int)) ((n : Int) - ((i + 1 : Nat) : Int))) :: news) →
      wpAny (model prog w) A (execs body env) (UnrPost h₀ env.locals { s with heap := h, toks := tk } I (itR (a + ((i + 1 : Nat) : Int)) ((n : Int) - ((i + 1 : Nat) : Int))) (RangeRest prog w A E h₀ env x body Q s I a n k (i + 1)) Q) E { s with heap := h, toks := tk }) :
    RangeRest prog w A E h₀ env x body Q s I a n (k + 1) i m news := RangeRest.succ (by rw [hv]; exact h)

theorem min_le_N {prog : Program} {w : World} {A : Around} {E : Value → Shared → Prop} {s : Shared} {h₀ : Heap} {L : Addr} {m : Str → Option Value} {news : List (Addr × Obj)} {a b : Int} {t u : Tok} {Q : Value → Shared → Prop} (hab : ¬ b < a) (hh : A.handled = none) (F : Fr h₀ L s.heap m) (N : News h₀ L s.heap news)
    (h : ∀ h' tk, Fr h₀ L h' m → News h₀ L h' news → Q (.int a t) { s with heap := h', toks := tk }) : wpAny (model prog w) A (call (.builtin "min") [.int a t, .int b u]) Q E s :=
  min_two_N hh F N fun h' tk F' N' => by rw [if_neg hab, if_neg hab]; exact h h' tk F' N'

theorem iter_listL {prog : Program} {w : World} {A : Around} {E : Value → Shared → Prop} {s : Shared} {env : Env} {h₀ : Heap} {x : Str} {body : List Stmt} {Q : Flow → Shared → Prop} {ax : Addr} {vs : List Value} {n : Nat} {m₀ : Str → Option Value} {news : List (Addr × Obj)}
    (hh : A.handled = none) (F : Fr h₀ env.locals s.heap m₀) (N : News h₀ env.locals s.heap news) (hm : (ax, listOf vs.toArray n) ∈ news)
    (rest₀ : ∀ I : Addr, (∀ p ∈ news, p.1 < I) → ListRest prog w A E h₀ env x body Q s I (ax, listOf vs.toArray n) vs m₀ news) :
    wpAny (model prog w) A (pyIter (.ref ax)) (fun it s₂ => LoopAtV prog w A h₀ env x body Q E it s₂) E s := iter_listUnr hh F N hm rfl rfl rest₀
theorem unr_endL {h₀ : Heap} {L I : Addr} {it : Obj} {lp : Addr × Obj} {R : (Str → Option Value) → List (Addr × Obj) → Prop} {s₁ : Shared} {h' : Heap} {tk : Nat} {m' : Str → Option Value} {all news' : List (Addr × Obj)} (F : Fr h₀ L h' m') (N : News h₀ L h' all)
    (pull : Pull (I, it) all news') (off : ∀ p ∈ news', p.1 ≠ I) (hm : lp ∈ news') (r : R m' news') : UnrEnd h₀ L s₁ I it (fun m' n' => lp ∈ n' ∧ R m' n') { s₁ with heap := h', toks := tk } := .intro F N news' pull.sub off ⟨hm, r⟩
end Mine93
-- Both93q
namespace Mine93

theorem kwBoth930 : True := by
  k_with_none
  (k_with "room" => first | exact Nat.le_of_ble_eq_true rfl | exact room2 (by assumption) (Nat.le_of_ble_eq_true rfl) | exact room3 (by assumption) (Nat.le_of_ble_eq_true rfl) | exact room1 (by assumption))
  (k_with "units" => first | exact Nat.le_of_ble_eq_true rfl | exact room2 (by assumption) (Nat.le_of_ble_eq_true rfl) | exact room3 (by assumption) (Nat.le_of_ble_eq_true rfl) | exact room1 (by assumption))
  (k_with "k_all" => assumption)
  (k_with "k_mem" => first | ((with_reducible refine mem_appL ?_); ktr_member) | ((with_reducible refine mem_appR ?_); ktr_member) | ((with_reducible refine mem_raw ?_); ktr_member))
  (k_with "execs cons Assign cons" => ((with_reducible refine wpAny_execs_cons ?_); try dsimp only))
  (k_with "exec While Compare cons nil" => (k_here; k_dflt (refine whl_start 100 ?_)))
  (k_with "pyIter ref" => ((with_reducible show wpAny _ _ (pyIter (Value.ref _)) (fun it s₂ => LoopAtV _ _ _ _ _ _ _ _ _ it s₂) _ _); k_here; l_hasStore; first | k_rangeUnr | krs_unr))
  (k_with "enterC" => (refine' code_defC ?kqk1 ?kqk2 ?kqk3 ?kqk4 ?kqk5 ?kqkA ?kqkF ?kqkK ?kqk6 ?kqk7 ?kqk8 ?kqk9 ?kqkB ?kqkD ?_ ?kqc2 ?kqc3 ?kqc4; (case kqkA => exact rfl); (case kqkF => exact rfl); (case kqkK => assumption); (case kqk1 => k_asm); (case kqk2 => k_asm); (case kqk3 => k_asm); (case kqk4 => k_asm); (case kqk5 => k_asm); (case kqk6 => k_is); (case kqk7 => k_is); (case kqk8 => ktr_room); (case kqk9 => exact BindsTo.of_eq rfl); (case kqkB => exact rfl); (case kqkD => decide +kernel); (case kqc2 => exact rfl); (case kqc3 => exact rfl); (case kqc4 => exact rfl); k_whole; intro g' L' h' tk' cells' FG' F' N' Y' B' X' T' l1; (have l9 := hi_of l1); (have l8 := hi_succ l9); (have l7 := hi_succ2 l9); (have l6 := hi_succ3 l9); (have l5 := hi_succ4 l9); (try k_lt l1); k_cells Y'; (try simp only [List.cons_append, List.nil_append] at N'); (try dsimp only); (try k_fold)))
  (k_with "split" => first | exact Split.app | (refine' Split.cons ?kqx; (case kqx => walk_at "split")) | exact Split.nil)
  (k_with "apart" => first | assumption | exact Apart.nil | (refine Apart.cons ?_ ?_ <;> walk_at "apart") | exact Apart.at (by assumption) (by k_mem))
  (k_with "kind" => first | exact rfl | assumption)
  (k_with "call ref" => (k_here; k_dflt (refine' c_pair (kd := Kd.and) (.inl rfl) ?kqB ?kqF ?kqX ?kqN ?kqT ?kqhk ?kqSp ?kqAp ?kqNI ?kqhx ?kqhy ?kqhd ?kqhu ?_; (case kqB => k_asm); (case kqF => k_asm); (case kqX => k_asm); (case kqN => k_asm); (case kqT => k_asm); (case kqhk => walk_at "kind"); (case kqSp => walk_at "split"); (case kqNI => assumption); (case kqAp => walk_at "apart"); (case kqhx => k_mem); (case kqhy => k_mem); (case kqhd => ktr_room); (case kqhu => ktr_units)); intro r' t' nt' h' tk' F' N' Ap' NI'; (have mG' := Net.mG NI'); (have mD' := Net.mdG NI'); (try simp only [List.cons_append, List.nil_append] at N'); (try k_sweep)))
  (k_with "call ref" => (k_here; k_dflt (refine' c_pair (kd := Kd.or) (.inr (.inl rfl)) ?kqB ?kqF ?kqX ?kqN ?kqT ?kqhk ?kqSp ?kqAp ?kqNI ?kqhx ?kqhy ?kqhd ?kqhu ?_; (case kqB => k_asm); (case kqF => k_asm); (case kqX => k_asm); (case kqN => k_asm); (case kqT => k_asm); (case kqhk => walk_at "kind"); (case kqSp => walk_at "split"); (case kqNI => assumption); (case kqAp => walk_at "apart"); (case kqhx => k_mem); (case kqhy => k_mem); (case kqhd => ktr_room); (case kqhu => ktr_units)); intro r' t' nt' h' tk' F' N' Ap' NI'; (have mG' := Net.mG NI'); (have mD' := Net.mdG NI'); (try simp only [List.cons_append, List.nil_append] at N'); (try k_sweep)))
  (k_with "call ref" => (k_here; k_dflt (refine' c_pair (kd := Kd.xor) (.inr (.inr rfl)) ?kqB ?kqF ?kqX ?kqN ?kqT ?kqhk ?kqSp ?kqAp ?kqNI ?kqhx ?kqhy ?kqhd ?kqhu ?_; (case kqB => k_asm); (case kqF => k_asm); (case kqX => k_asm); (case kqN => k_asm); (case kqT => k_asm); (case kqhk => walk_at "kind"); (case kqSp => walk_at "split"); (case kqNI => assumption); (case kqAp => walk_at "apart"); (case kqhx => k_mem); (case kqhy => k_mem); (case kqhd => ktr_room); (case kqhu => ktr_units)); intro r' t' nt' h' tk' F' N' Ap' NI'; (have mG' := Net.mG NI'); (have mD' := Net.mdG NI'); (try simp only [List.cons_append, List.nil_append] at N'); (try k_sweep)))
  (k_with "call ref" => (k_here; k_dflt (refine' c_inv ?kqB ?kqF ?kqX ?kqN ?kqT ?kqhk ?kqSp ?kqAp ?kqNI ?kqhx ?kqhd ?kqhu ?_; (case kqB => k_asm); (case kqF => k_asm); (case kqX => k_asm); (case kqN => k_asm); (case kqT => k_asm); (case kqhk => walk_at "kind"); (case kqSp => walk_at "split"); (case kqNI => assumption); (case kqAp => walk_at "apart"); (case kqhx => k_mem); (case kqhd => ktr_room); (case kqhu => ktr_units)); intro r' t' nt' h' tk' F' N' Ap' NI'; (have mG' := Net.mG NI'); (have mD' := Net.mdG NI'); (try simp only [List.cons_append, List.nil_append] at N'); (try k_sweep)))
  (k_with "call ref" => (k_here; k_dflt (refine' c_opp ?kqB ?kqF ?kqX ?kqN ?kqT ?kqhk ?kqSp ?kqNI ?kqhx ?kqhy ?kqhd ?kqhu ?_; (case kqB => k_asm); (case kqF => k_asm); (case kqX => k_asm); (case kqN => k_asm); (case kqT => k_asm); (case kqhk => walk_at "kind"); (case kqSp => walk_at "split"); (case kqNI => assumption); (case kqhx => k_mem); (case kqhy => k_mem); (case kqhd => ktr_room); (case kqhu => ktr_units)); intro b' h' tk' hb' F' N'; (try k_sweep)))
  trivial

section
variable {prog : Program} {w : World} {mg mb : Str → Option Value} {mean : ExcName → Option Value} {loose : List Str} {dp un : Nat} {gd : Option (List Code)} {cn : Str} {cs : Scope} {L a : Addr} {ccd : Value} {cl : List (Str × Addr)} {outer : List Env} {A₀ : Around}
  {base h₀ : Heap} {m : Str → Option Value} {s : Shared} {Q E : Value → Shared → Prop} {A : NA} {news own nt : List (Addr × Obj)} {gs : List (Int × RF)} {R : Nat}

theorem c_both {x y : Int} {tx ty : Tok} {fx fy : RF}
    (B : Below A₀ base outer h₀) (F : Fr h₀ L s.heap m) (X : (hd93.heap_1 w.params).In h₀) (N : News h₀ L s.heap news) (T : Top hd93.view_1 loose mean mg mb h₀) (hk : cs.kind = .function)
    (Sp : Split news own nt) (Ap : Apart own nt) (NI : Net prog w A nt gs (R + 1)) (hx : (x, fx) ∈ gs) (hy : (y, fy) ∈ gs)
    (hd : dp + 20 < recursionLimit) (hu : un + 160 < cLine)
    (ret : ∀ r t nt' h' tk', Fr h₀ L h' m → News h₀ L h' (own ++ nt') → Apart own nt' → Net prog w A nt' ((r, fun i => fx i && fy i) :: gs) R → Q (.int r t) { s with heap := h', toks := tk' }) :
    wpAny (model prog w) (ktrTop dp un gd cn cs L a ccd cl outer) (call (.ref 63) [.ref A.G, .int x tx, .int y ty]) Q E s := by
  obtain rfl := Sp.eq
  clear Sp
  have mG := NI.mG
  have mD := NI.mdG
  refine wpAny_call ?_
  k_dflt ktr_enter
  rename Fr _ _ _ (fun y => List.lookup y _) => FN
  replace FN : Fr _ _ _ (fun y9 => List.lookup y9 [(Str.ofString "b", .int y ty), (Str.ofString "a", .int x tx), (Str.ofString "self", .ref A.G)]) := FN
  generalize (Shared.toks s + List.length _) = tk0
  k_steps
  · exact ret 0 _ _ _ _ (by k_asm) (by k_asm) Ap (NI.ret0 (Nat.le_add_right _ _) (by funext i; rw [(NI.eq01 hx).1 (by assumption)]; rfl))
  · exact ret 0 _ _ _ _ (by k_asm) (by k_asm) Ap (NI.ret0 (Nat.le_add_right _ _) (by funext i; rw [(NI.eq01 hy).1 (by assumption)]; exact Bool.and_false _))
  · exact ret 0 _ _ _ _ (by k_asm) (by k_asm) Ap (NI.ret0 (Nat.le_add_right _ _) (by funext i; rw [(by assumption : _ = true → ∀ i, fx i = !fy i) (by assumption) i]; cases fy i <;> rfl))
  · exact ret y _ _ _ _ (by k_asm) (by k_asm) Ap (NI.retm (Nat.le_add_right _ _) hy (by funext i; rw [(NI.eq01 hx).2 (by assumption)]; rfl))
  · exact ret y _ _ _ _ (by k_asm) (by k_asm) Ap (NI.retm (Nat.le_add_right _ _) hy (by funext i; rw [NI.same hx hy (by assumption)]; exact (Bool.and_self _).symm))
  · exact ret x _ _ _ _ (by k_asm) (by k_asm) Ap (NI.retm (Nat.le_add_right _ _) hx (by funext i; rw [(NI.eq01 hy).2 (by assumption)]; exact (Bool.and_true _).symm))
  · exact ret _ _ _ _ _ (by k_asm) (by k_asm) (by assumption) (by assumption)
theorem c_either {x y : Int} {tx ty : Tok} {fx fy : RF}
    (B : Below A₀ base outer h₀) (F : Fr h₀ L s.heap m) (X : (hd93.heap_1 w.params).In h₀) (N : News h₀ L s.heap news) (T : Top hd93.view_1 loose mean mg mb h₀) (hk : cs.kind = .function)
    (Sp : Split news own nt) (Ap : Apart own nt) (NI : Net prog w A nt gs (R + 1)) (hx : (x, fx) ∈ gs) (hy : (y, fy) ∈ gs)
    (hd : dp + 20 < recursionLimit) (hu : un + 160 < cLine)
    (ret : ∀ r t nt' h' tk', Fr h₀ L h' m → News h₀ L h' (own ++ nt') → Apart own nt' → Net prog w A nt' ((r, fun i => fx i || fy i) :: gs) R → Q (.int r t) { s with heap := h', toks := tk' }) :
    wpAny (model prog w) (ktrTop dp un gd cn cs L a ccd cl outer) (call (.ref 70) [.ref A.G, .int x tx, .int y ty]) Q E s := by
  obtain rfl := Sp.eq
  clear Sp
  have mG := NI.mG
  have mD := NI.mdG
  refine wpAny_call ?_
  k_dflt ktr_enter
  rename Fr _ _ _ (fun y => List.lookup y _) => FN
  replace FN : Fr _ _ _ (fun y9 => List.lookup y9 [(Str.ofString "b", .int y ty), (Str.ofString "a", .int x tx), (Str.ofString "self", .ref A.G)]) := FN
  generalize (Shared.toks s + List.length _) = tk0
  k_steps
  · exact ret 1 _ _ _ _ (by k_asm) (by k_asm) Ap (NI.ret1 (Nat.le_add_right _ _) (by funext i; rw [(NI.eq01 hx).2 (by assumption)]; rfl))
  · exact ret 1 _ _ _ _ (by k_asm) (by k_asm) Ap (NI.ret1 (Nat.le_add_right _ _) (by funext i; rw [(NI.eq01 hy).2 (by assumption)]; exact Bool.or_true _))
  · exact ret 1 _ _ _ _ (by k_asm) (by k_asm) Ap (NI.ret1 (Nat.le_add_right _ _) (by funext i; rw [(by assumption : _ = true → ∀ i, fx i = !fy i) (by assumption) i]; cases fy i <;> rfl))
  · exact ret y _ _ _ _ (by k_asm) (by k_asm) Ap (NI.retm (Nat.le_add_right _ _) hy (by funext i; rw [(NI.eq01 hx).1 (by assumption)]; rfl))
  · exact ret y _ _ _ _ (by k_asm) (by k_asm) Ap (NI.retm (Nat.le_add_right _ _) hy (by funext i; rw [NI.same hx hy (by assumption)]; exact (Bool.or_self _).symm))
  · exact ret x _ _ _ _ (by k_asm) (by k_asm) Ap (NI.retm (Nat.le_add_right _ _) hx (by funext i; rw [(NI.eq01 hy).1 (by assumption)]; exact (Bool.or_false _).symm))
  · exact ret _ _ _ _ _ (by k_asm) (by k_asm) (by assumption) (by assumption)
theorem c_differ {x y : Int} {tx ty : Tok} {fx fy : RF}
    (B : Below A₀ base outer h₀) (F : Fr h₀ L s.heap m) (X : (hd93.heap_1 w.params).In h₀) (N : News h₀ L s.heap news) (T : Top hd93.view_1 loose mean mg mb h₀) (hk : cs.kind = .function)
    (Sp : Split news own nt) (Ap : Apart own nt) (NI : Net prog w A nt gs (R + 1)) (hx : (x, fx) ∈ gs) (hy : (y, fy) ∈ gs)
    (hd : dp + 20 < recursionLimit) (hu : un + 160 < cLine)
    (ret : ∀ r t nt' h' tk', Fr h₀ L h' m → News h₀ L h' (own ++ nt') → Apart own nt' → Net prog w A nt' ((r, fun i => fx i != fy i) :: gs) R → Q (.int r t) { s with heap := h', toks := tk' }) :
    wpAny (model prog w) (ktrTop dp un gd cn cs L a ccd cl outer) (call (.ref 77) [.ref A.G, .int x tx, .int y ty]) Q E s := by
  obtain rfl := Sp.eq
  clear Sp
  have mG := NI.mG
  have mD := NI.mdG
  refine wpAny_call ?_
  k_dflt ktr_enter
  rename Fr _ _ _ (fun y => List.lookup y _) => FN
  replace FN : Fr _ _ _ (fun y9 => List.lookup y9 [(Str.ofString "b", .int y ty), (Str.ofString "a", .int x tx), (Str.ofString "self", .ref A.G)]) := FN
  generalize (Shared.toks s + List.length _) = tk0
  k_steps
  · exact ret 0 _ _ _ _ (by k_asm) (by k_asm) Ap (NI.ret0 (Nat.le_add_right _ _) (by funext i; rw [NI.same hx hy (by assumption)]; cases fy i <;> rfl))
  · exact ret 1 _ _ _ _ (by k_asm) (by k_asm) Ap (NI.ret1 (Nat.le_add_right _ _) (by funext i; rw [(by assumption : _ = true → ∀ i, fx i = !fy i) (by assumption) i]; cases fy i <;> rfl))
  · exfalso; omega
  · exact ret y _ _ _ _ (by k_asm) (by k_asm) Ap (NI.retm (Nat.le_add_right _ _) hy (by funext i; rw [(NI.eq01 hx).1 (by assumption)]; cases fy i <;> rfl))
  · exact ret _ _ _ _ _ (by k_asm) (by k_asm) (by assumption) (Net.retn (by assumption) (Nat.le_refl _) (by funext i; rw [(NI.eq01 hx).2 (by assumption)]; cases fy i <;> rfl) (fun _ h => h))
  · exfalso; omega
  · exfalso; omega
  · exact ret x _ _ _ _ (by k_asm) (by k_asm) Ap (NI.retm (Nat.le_add_right _ _) hx (by funext i; rw [(NI.eq01 hy).1 (by assumption)]; cases fx i <;> rfl))
  · exact ret _ _ _ _ _ (by k_asm) (by k_asm) (by assumption) (Net.retn (by assumption) (Nat.le_refl _) (by funext i; rw [(NI.eq01 hy).2 (by assumption)]; cases fx i <;> rfl) (fun _ h => h))
  · exfalso; omega
  · exact ret _ _ _ _ _ (by k_asm) (by k_asm) (by assumption) (by assumption)
end
end Mine93
-- Mux93q
namespace Mine93

theorem kwMux930 : True := by
  k_with_none
  (k_with "k_ne" => ((try dsimp only); first | assumption | exact Ne.symm (by assumption) | exact ltc0 (by assumption) | exact ltc1 (by assumption) | exact ltc2 (by assumption) | exact ltc3 (by assumption) | exact ltc4 (by assumption) | exact ltc5 (by assumption) | exact ltc6 (by assumption) | exact ltc7 (by assumption) | exact ltc8 (by assumption) | exact ltc9 (by assumption) | exact ltc10 (by assumption) | exact ltc11 (by assumption) | exact ltc12 (by assumption) | exact ltc13 (by assumption) | exact ltc14 (by assumption) | exact Ne.symm (ltc0 (by assumption)) | exact Ne.symm (ltc1 (by assumption)) | exact Ne.symm (ltc2 (by assumption)) | exact Ne.symm (ltc3 (by assumption)) | exact Ne.symm (ltc4 (by assumption)) | exact Ne.symm (ltc5 (by assumption)) | exact Ne.symm (ltc6 (by assumption)) | exact Ne.symm (ltc7 (by assumption)) | exact Ne.symm (ltc8 (by assumption)) | exact Ne.symm (ltc9 (by assumption)) | exact Ne.symm (ltc10 (by assumption)) | exact Ne.symm (ltc11 (by assumption)) | exact Ne.symm (ltc12 (by assumption)) | exact Ne.symm (ltc13 (by assumption)) | exact Ne.symm (ltc14 (by assumption)) | omega))
  (k_with "room" => first | exact Nat.le_of_ble_eq_true rfl | exact room2 (by assumption) (Nat.le_of_ble_eq_true rfl) | exact room3 (by assumption) (Nat.le_of_ble_eq_true rfl) | exact room1 (by assumption))
  (k_with "units" => first | exact Nat.le_of_ble_eq_true rfl | exact room2 (by assumption) (Nat.le_of_ble_eq_true rfl) | exact room3 (by assumption) (Nat.le_of_ble_eq_true rfl) | exact room1 (by assumption))
  (k_with "k_all" => assumption)
  (k_with "k_mem" => first | ((with_reducible refine mem_appL ?_); ktr_member) | ((with_reducible refine mem_appR ?_); ktr_member) | ((with_reducible refine mem_raw ?_); ktr_member))
  (k_with "execs cons Assign cons" => ((with_reducible refine wpAny_execs_cons ?_); try dsimp only))
  (k_with "exec While Compare cons nil" => (k_here; k_dflt (refine whl_start 100 ?_)))
  (k_with "pyIter ref" => ((with_reducible show wpAny _ _ (pyIter (Value.ref _)) (fun it s₂ => LoopAtV _ _ _ _ _ _ _ _ _ it s₂) _ _); k_here; l_hasStore; first | k_rangeUnr | krs_unr))
  (k_with "enterC" => (refine' code_defC ?kqk1 ?kqk2 ?kqk3 ?kqk4 ?kqk5 ?kqkA ?kqkF ?kqkK ?kqk6 ?kqk7 ?kqk8 ?kqk9 ?kqkB ?kqkD ?_ ?kqc2 ?kqc3 ?kqc4; (case kqkA => exact rfl); (case kqkF => exact rfl); (case kqkK => assumption); (case kqk1 => k_asm); (case kqk2 => k_asm); (case kqk3 => k_asm); (case kqk4 => k_asm); (case kqk5 => k_asm); (case kqk6 => k_is); (case kqk7 => k_is); (case kqk8 => ktr_room); (case kqk9 => exact BindsTo.of_eq rfl); (case kqkB => exact rfl); (case kqkD => decide +kernel); (case kqc2 => exact rfl); (case kqc3 => exact rfl); (case kqc4 => exact rfl); k_whole; intro g' L' h' tk' cells' FG' F' N' Y' B' X' T' l1; (have l9 := hi_of l1); (have l8 := hi_succ l9); (have l7 := hi_succ2 l9); (have l6 := hi_succ3 l9); (have l5 := hi_succ4 l9); (try k_lt l1); k_cells Y'; (try simp only [List.cons_append, List.nil_append] at N'); (try dsimp only); (try k_fold)))
  (k_with "split" => first | exact Split.app | (refine' Split.cons ?kqx; (case kqx => walk_at "split")) | exact Split.nil)
  (k_with "apart" => first | assumption | exact Apart.nil | (refine Apart.cons ?_ ?_ <;> walk_at "apart") | exact Apart.at (by assumption) (by k_mem))
  (k_with "kind" => first | exact rfl | assumption)
  (k_with "sub" => repeat (first | exact fun _ h => h | (refine sub_cons ?kqmem ?_; (case kqmem => k_mem)) | refine sub_tail ?_))
  (k_with "key" => first | exact items3 | exact items4)
  (k_with "compareOp NotIn ref ref" => (k_here; k_dflt (refine' notin_made (prog := _) ?kqN ?kqd ?kqk ?kqM ?kqT ?kqi ?kqlo ?kqu ?_; (case kqM => assumption); (case kqN => k_asm); (case kqd => k_mem); (case kqk => k_mem); (case kqT => walk_at "sub"); (case kqi => walk_at "key"); (case kqlo => assumption); (case kqu => ktr_units)); intro tk'))
  (k_with "setItem ref ref" => (k_here; k_dflt (refine' set_made (prog := _) ?kqF ?kqN ?kqU ?kqk ?kqM ?kqT ?kqi ?kqu ?kqno ?kqsz ?_; (case kqM => assumption); (case kqF => k_asm); (case kqN => k_asm); (case kqU => k_updF); (case kqk => k_mem); (case kqT => walk_at "sub"); (case kqi => walk_at "key"); (case kqu => ktr_units); (case kqno => assumption); (case kqsz => assumption)); intro h' o' tk' F' N' M'; (try dsimp only at N'); (try k_sweep)))
  (k_with "subscriptTail Attribute Name Name ref ref" => (k_here; (with_reducible show wpAny _ _ (subscriptTail _ _ (Value.ref _) (Value.ref _)) _ _ _); k_dflt (refine' get_made (prog := _) ?kqN ?kqd ?kqk ?kqM ?kqT ?kqi ?kqu ?kqp ?_; (case kqM => assumption); (case kqN => k_asm); (case kqd => k_mem); (case kqk => k_mem); (case kqT => walk_at "sub"); (case kqi => walk_at "key"); (case kqu => ktr_units); (case kqp => assumption)); intro p' tk' hp'))
  (k_with "subscriptTail Attribute Name Name ref ref" => (k_here; (with_reducible show wpAny _ _ (subscriptTail _ _ (Value.ref _) (Value.ref _)) _ _ _); k_dflt (refine' get_made_new (prog := _) ?kqN ?kqd ?kqk ?kqM ?kqT ?kqi ?kqu ?kqp ?_; (case kqM => assumption); (case kqN => k_asm); (case kqd => k_mem); (case kqk => k_mem); (case kqT => walk_at "sub"); (case kqi => walk_at "key"); (case kqu => ktr_units); (case kqp => assumption)); intro tk'))
  (k_with "newTuple" => (k_here; k_dflt (refine' kup_newTuple ?kqF ?kqN ?_ ?kqz; (case kqF => k_asm); (case kqN => k_asm); (case kqz => kmk_size)); intro D' h' F' N' l1; (have l9 := hi_of l1); (try (replace l9 := hi_flip l9)); (replace l1 := hi_to l9); (try (replace N' := news_flip N')); (try k_lt l1); (try k_sweep)))
  (k_with "call ref" => ((with_reducible show wpAny _ _ (call (Value.ref 56) _) _ _ _); k_here; k_dflt (refine' c_inv ?kqB ?kqF ?kqX ?kqN ?kqT ?kqhk ?kqSp ?kqAp ?kqNI ?kqhx ?kqhd ?kqhu ?_; (case kqB => k_asm); (case kqF => k_asm); (case kqX => k_asm); (case kqN => k_asm); (case kqT => k_asm); (case kqhk => walk_at "kind"); (case kqSp => walk_at "split"); (case kqNI => assumption); (case kqAp => walk_at "apart"); (case kqhx => k_mem); (case kqhd => ktr_room); (case kqhu => ktr_units)); intro r' t' nt' h' tk' F' N' Ap' NI'; (have mG' := Net.mG NI'); (have mD' := Net.mdG NI'); (try simp only [List.cons_append, List.nil_append] at N'); (try k_sweep)))
  (k_with "call ref" => ((with_reducible show wpAny _ _ (call (Value.ref 63) _) _ _ _); k_here; k_dflt (refine' c_both ?kqB ?kqF ?kqX ?kqN ?kqT ?kqhk ?kqSp ?kqAp ?kqNI ?kqhx ?kqhy ?kqhd ?kqhu ?_; (case kqB => k_asm); (case kqF => k_asm); (case kqX => k_asm); (case kqN => k_asm); (case kqT => k_asm); (case kqhk => walk_at "kind"); (case kqSp => walk_at "split"); (case kqNI => assumption); (case kqAp => walk_at "apart"); (case kqhx => k_mem); (case kqhy => k_mem); (case kqhd => ktr_room); (case kqhu => ktr_units)); intro r' t' nt' h' tk' F' N' Ap' NI'; (have mG' := Net.mG NI'); (have mD' := Net.mdG NI'); (try simp only [List.cons_append, List.nil_append] at N'); (try k_sweep)))
  (k_with "call ref" => ((with_reducible show wpAny _ _ (call (Value.ref 70) _) _ _ _); k_here; k_dflt (refine' c_either ?kqB ?kqF ?kqX ?kqN ?kqT ?kqhk ?kqSp ?kqAp ?kqNI ?kqhx ?kqhy ?kqhd ?kqhu ?_; (case kqB => k_asm); (case kqF => k_asm); (case kqX => k_asm); (case kqN => k_asm); (case kqT => k_asm); (case kqhk => walk_at "kind"); (case kqSp => walk_at "split"); (case kqNI => assumption); (case kqAp => walk_at "apart"); (case kqhx => k_mem); (case kqhy => k_mem); (case kqhd => ktr_room); (case kqhu => ktr_units)); intro r' t' nt' h' tk' F' N' Ap' NI'; (have mG' := Net.mG NI'); (have mD' := Net.mdG NI'); (try simp only [List.cons_append, List.nil_append] at N'); (try k_sweep)))
  (k_with "call ref" => ((with_reducible show wpAny _ _ (call (Value.ref 77) _) _ _ _); k_here; k_dflt (refine' c_differ ?kqB ?kqF ?kqX ?kqN ?kqT ?kqhk ?kqSp ?kqAp ?kqNI ?kqhx ?kqhy ?kqhd ?kqhu ?_; (case kqB => k_asm); (case kqF => k_asm); (case kqX => k_asm); (case kqN => k_asm); (case kqT => k_asm); (case kqhk => walk_at "kind"); (case kqSp => walk_at "split"); (case kqNI => assumption); (case kqAp => walk_at "apart"); (case kqhx => k_mem); (case kqhy => k_mem); (case kqhd => ktr_room); (case kqhu => ktr_units)); intro r' t' nt' h' tk' F' N' Ap' NI'; (have mG' := Net.mG NI'); (have mD' := Net.mdG NI'); (try simp only [List.cons_append, List.nil_append] at N'); (try k_sweep)))
  (k_with "call ref" => ((with_reducible show wpAny _ _ (call (Value.ref 49) _) _ _ _); k_here; k_dflt (refine' c_opp ?kqB ?kqF ?kqX ?kqN ?kqT ?kqhk ?kqSp ?kqNI ?kqhx ?kqhy ?kqhd ?kqhu ?_; (case kqB => k_asm); (case kqF => k_asm); (case kqX => k_asm); (case kqN => k_asm); (case kqT => k_asm); (case kqhk => walk_at "kind"); (case kqSp => walk_at "split"); (case kqNI => assumption); (case kqhx => k_mem); (case kqhy => k_mem); (case kqhd => ktr_room); (case kqhu => ktr_units)); intro b' h' tk' hb' F' N'; (try k_sweep)))
  trivial

section
variable {prog : Program} {w : World} {mg mb : Str → Option Value} {mean : ExcName → Option Value} {loose : List Str} {dp un : Nat} {gd : Option (List Code)} {cn : Str} {cs : Scope} {L a : Addr} {ccd : Value} {cl : List (Str × Addr)} {outer : List Env} {A₀ : Around}
  {base h₀ : Heap} {m : Str → Option Value} {s : Shared} {Q E : Value → Shared → Prop} {A : NA} {news own nt : List (Addr × Obj)} {gs : List (Int × RF)} {R : Nat}

theorem c_same {x y : Int} {tx ty : Tok} {fx fy : RF}
    (B : Below A₀ base outer h₀) (F : Fr h₀ L s.heap m) (X : (hd93.heap_1 w.params).In h₀) (N : News h₀ L s.heap news) (T : Top hd93.view_1 loose mean mg mb h₀) (hk : cs.kind = .function)
    (Sp : Split news own nt) (Ap : Apart own nt) (NI : Net prog w A nt gs (R + 2)) (hx : (x, fx) ∈ gs) (hy : (y, fy) ∈ gs)
    (hd : dp + 40 < recursionLimit) (hu : un + 320 < cLine)
    (ret : ∀ r t nt' h' tk', Fr h₀ L h' m → News h₀ L h' (own ++ nt') → Apart own nt' → Net prog w A nt' ((r, fun i => !(fx i != fy i)) :: gs) R → Q (.int r t) { s with heap := h', toks := tk' }) :
    wpAny (model prog w) (ktrTop dp un gd cn cs L a ccd cl outer) (call (.ref 84) [.ref A.G, .int x tx, .int y ty]) Q E s := by
  obtain rfl := Sp.eq
  clear Sp
  have mG := NI.mG
  have mD := NI.mdG
  refine wpAny_call ?_
  k_dflt ktr_enter
  rename Fr _ _ _ (fun y => List.lookup y _) => FN
  replace FN : Fr _ _ _ (fun y9 => List.lookup y9 [(Str.ofString "b", .int y ty), (Str.ofString "a", .int x tx), (Str.ofString "self", .ref A.G)]) := FN
  generalize (Shared.toks s + List.length _) = tk0
  k_steps
  all_goals exact ret _ _ _ _ _ (by k_asm) (by k_asm) (by assumption) (Net.retn (by assumption) (Nat.le_refl _) rfl (fun p hp => .tail _ hp))
theorem c_mux {x y z : Int} {tx ty tz : Tok} {fx fy fz : RF}
    (B : Below A₀ base outer h₀) (F : Fr h₀ L s.heap m) (X : (hd93.heap_1 w.params).In h₀) (N : News h₀ L s.heap news) (T : Top hd93.view_1 loose mean mg mb h₀) (hk : cs.kind = .function)
    (Sp : Split news own nt) (Ap : Apart own nt) (NI : Net prog w A nt gs (R + 2)) (hx : (x, fx) ∈ gs) (hy : (y, fy) ∈ gs) (hz : (z, fz) ∈ gs)
    (hd : dp + 40 < recursionLimit) (hu : un + 320 < cLine)
    (ret : ∀ r t nt' h' tk', Fr h₀ L h' m → News h₀ L h' (own ++ nt') → Apart own nt' → Net prog w A nt' ((r, fun i => if fx i then fz i else fy i) :: gs) R → Q (.int r t) { s with heap := h', toks := tk' }) :
    wpAny (model prog w) (ktrTop dp un gd cn cs L a ccd cl outer) (call (.ref 91) [.ref A.G, .int x tx, .int y ty, .int z tz]) Q E s := by
  obtain rfl := Sp.eq
  clear Sp
  obtain ⟨c, tc, oM, oP, ces, ec, tl, V, made, ops, rfl, K, g, b⟩ := id NI
  have hvx : V x = fx := (g _ hx).2.2
  have hvy : V y = fy := (g _ hy).2.2
  have hvz : V z = fz := (g _ hz).2.2
  have OF := offFix_of K N Ap
  have hmc := K.mL
  have hcs : ((ces.map fun x => Value.ref x.at_).toArray).size ≤ 100000 := by simp; omega
  have hM := K.mD.mono (T' := tl ++ own) fun p hp => List.mem_append_left _ hp
  have hml : made.length ≤ 100000 := by omega
  obtain ⟨n01, n02, n03, n04, n05, n06, n12, n13, n14, n15, n16, n23, n24, n25, n26, n34, n35, n36, n45, n46, n56⟩ := Ord.all K.ord
  obtain ⟨o1, o2, o3, o4, o5, o6, lo1, lo2⟩ := K.ord
  obtain ⟨q1, q2, q3, q4⟩ := OF
  have mG := NI.mG
  have mD := NI.mdG
  refine wpAny_call ?_
  k_dflt ktr_enter
  rename Fr _ _ _ (fun y => List.lookup y _) => FN
  replace FN : Fr _ _ _ (fun y9 => List.lookup y9 [(Str.ofString "b", .int z tz), (Str.ofString "a", .int y ty), (Str.ofString "s", .int x tx), (Str.ofString "self", .ref A.G)]) := FN
  generalize (Shared.toks s + List.length _) = tk0
  k_steps
  · exact ret y _ _ _ _ (by k_asm) (by k_asm) Ap (NI.retm (Nat.le_add_right _ _) hy (by funext i; rw [(NI.eq01 hx).1 (by assumption)]; rfl))
  · exact ret y _ _ _ _ (by k_asm) (by k_asm) Ap (NI.retm (Nat.le_add_right _ _) hy (by funext i; rw [NI.same hy hz (by assumption)]; cases fx i <;> rfl))
  · exact ret z _ _ _ _ (by k_asm) (by k_asm) Ap (NI.retm (Nat.le_add_right _ _) hz (by funext i; rw [(NI.eq01 hx).2 (by assumption)]; rfl))
  · exact ret _ _ _ _ _ (by k_asm) (by k_asm) (by assumption) (Net.retn (by assumption) (Nat.le_add_right _ _) (by funext i; rw [(NI.eq01 hy).1 (by assumption)]; cases fx i <;> rfl) (fun _ h => h))
  · exact ret _ _ _ _ _ (by k_asm) (by k_asm) (by assumption) (Net.retn (by assumption) (Nat.le_add_right _ _) (by funext i; rw [NI.same hy hx (by assumption)]; cases fx i <;> rfl) (fun _ h => h))
  · exact ret _ _ _ _ _ (by k_asm) (by k_asm) (by assumption) (Net.retn (by assumption) (Nat.le_add_right _ _) (by funext i; rw [(NI.eq01 hz).2 (by assumption)]; cases fx i <;> rfl) (fun _ h => h))
  · exact ret _ _ _ _ _ (by k_asm) (by k_asm) (by assumption) (Net.retn (by assumption) (Nat.le_add_right _ _) (by funext i; rw [NI.same hz hx (by assumption)]; cases fx i <;> rfl) (fun _ h => h))
  · exact ret _ _ _ _ _ (by k_asm) (by k_asm) (by assumption) (Net.retn (by assumption) (Nat.le_refl _) (by funext i; rw [(NI.eq01 hy).2 (by assumption)]; cases fx i <;> rfl) (fun _ h => .tail _ h))
  · exact ret _ _ _ _ _ (by k_asm) (by k_asm) (by assumption) (Net.retn (by assumption) (Nat.le_refl _) (by funext i; rw [(by assumption : _ = true → ∀ i, fy i = !fx i) (by assumption) i]; cases fx i <;> rfl) (fun _ h => .tail _ h))
  · exact ret _ _ _ _ _ (by k_asm) (by k_asm) (by assumption) (Net.retn (by assumption) (Nat.le_refl _) (by funext i; rw [(NI.eq01 hz).1 (by assumption)]; cases fx i <;> rfl) (fun _ h => .tail _ h))
  · exact ret _ _ _ _ _ (by k_asm) (by k_asm) (by assumption) (Net.retn (by assumption) (Nat.le_refl _) (by funext i; rw [(by assumption : _ = true → ∀ i, fz i = !fx i) (by assumption) i]; cases fx i <;> rfl) (fun _ h => .tail _ h))
  · exact ret _ _ _ _ _ (by k_asm) (by k_asm) (by assumption) (Net.retn (by assumption) (Nat.le_add_right _ _) (by funext i; rw [(by assumption : _ = true → ∀ i, fy i = !fz i) (by assumption) i]; cases fx i <;> cases fz i <;> rfl) (fun _ h => h))
  · obtain ⟨r, t, e, nn⟩ := net_found (tc := tc) (ec := ec) .mux [x, y, z] K g b (R' := R) (by omega) (f := fun i => if fx i then fz i else fy i) (by show (fun i => if V x i = true then V z i else V y i) = _; rw [hvx, hvy, hvz]) (by assumption)
    rw [e]
    exact ret r t _ _ _ (by k_asm) (news_sub (by k_asm) (fun p hp => .tail _ (sub_fixed' p hp))) Ap nn
  · refine' ret _ _ _ _ _ ?n1 (news_sub ?n2 (fun p hp => sub_fixed' (own := own) p hp)) ?n3 (net_new (own := own) .mux [(x, _), (y, _), (z, _)] K g b (R' := R) (by omega) rfl ?n4 ?n5 ?n6 items4)
    case n1 => k_asm
    case n6 => assumption
    case n2 => exact news_sub (by k_asm) (by walk_at "sub")
    case n3 => exact apart_new (l := [(_, _), (_, _), (_, _)]) Ap (by
        intro q hq
        simp only [List.mem_cons, List.not_mem_nil, or_false] at hq
        rcases hq with rfl | rfl | rfl
        · exact Hi.ne (by assumption) (by walk_at "sub")
        · exact Hi.ne (by assumption) (by walk_at "sub")
        · exact Hi.ne (by assumption) (by walk_at "sub"))
    case n4 =>
      intro p hp
      simp only [List.mem_cons, List.not_mem_nil, or_false] at hp
      rcases hp with rfl | rfl | rfl
      · exact ⟨(g _ hx).1, (g _ hx).2.1⟩
      · exact ⟨(g _ hy).1, (g _ hy).2.1⟩
      · exact ⟨(g _ hz).1, (g _ hz).2.1⟩
    case n5 => show (fun i => if V x i = true then V z i else V y i) = _; rw [hvx, hvy, hvz]
end
end Mine93
-- NM
namespace Mine93
/-- the number of a list of bits, the lowest first -/
def nm : List Bool → Nat
  | [] => 0
  | b :: r => b.toNat + 2 * nm r
end Mine93
-- Z0
namespace Mine93
structure NB where
  n : Int
  t : Tok
  f : RF
abbrev NB.val (b : NB) : Value := .int b.n b.t
abbrev NB.net (b : NB) : Int × RF := (b.n, b.f)
abbrev vals (us : List NB) : Array Value := (us.map NB.val).toArray
abbrev nets (us : List NB) : List (Int × RF) := us.map NB.net
def num (us : List NB) (i : Nat) : Nat := nm (us.map fun b => b.f i)
theorem mem_rev {a gs : List (Int × RF)} : ∀ p ∈ a ++ gs, p ∈ a.reverse ++ gs := by intro p hp; simpa using hp
theorem num_lt (us : List NB) (i : Nat) : num us i < 2 ^ us.length := by
  unfold num
  induction us with
  | nil => simp [nm]
  | cons b r ih =>
    simp only [List.map, nm, List.length_cons]
    have := Bool.toNat_le (b.f i)
    have e : 2 ^ (r.length + 1) = 2 * 2 ^ r.length := by rw [Nat.pow_succ, Nat.mul_comm]
    omega
theorem gin_here {a gs : List (Int × RF)} : ∀ p ∈ a, p ∈ a ++ gs := fun _ h => List.mem_append_left _ h
theorem gin_app {a b gs : List (Int × RF)} (h : ∀ p ∈ a, p ∈ gs) : ∀ p ∈ a, p ∈ b ++ gs := fun p q => List.mem_append_right _ (h p q)
theorem gin_cons {a gs : List (Int × RF)} {x : Int × RF} (h : ∀ p ∈ a, p ∈ gs) : ∀ p ∈ a, p ∈ x :: gs := fun p q => .tail _ (h p q)
theorem gin_nil {gs : List (Int × RF)} : ∀ p ∈ nets [], p ∈ gs := fun _ h => by cases h
theorem gin_two {gs : List (Int × RF)} {b : NB} {r : List NB} (h : (b.n, b.f) ∈ gs) (k : ∀ p ∈ nets r, p ∈ gs) : ∀ p ∈ nets (b :: r), p ∈ gs := fun p q => by
  rcases List.mem_cons.mp q with rfl | q
  · exact h
  · exact k p q
theorem vals_size {us : List NB} {n : Nat} (h : us.length = n) : ((vals us).size : Int) = (n : Int) := by simp [vals, h]
section
variable {prog : Program} {w : World} {mg mb : Str → Option Value} {mean : ExcName → Option Value} {loose : List Str} {dp un : Nat} {gd : Option (List Code)} {cn : Str} {cs : Scope} {L a : Addr} {ccd : Value} {cl : List (Str × Addr)} {outer : List Env} {A₀ : Around}
  {base h₀ : Heap} {m : Str → Option Value} {s : Shared} {Q E : Value → Shared → Prop} {A : NA} {news own nt : List (Addr × Obj)} {gs : List (Int × RF)} {R : Nat}
theorem net_fin {prog : Program} {w : World} {A : NA} {nt : List (Addr × Obj)} {gs gs' : List (Int × RF)} {R R' : Nat} (h : Net prog w A nt gs R') (hl : R ≤ R') (hs : ∀ p ∈ gs', p ∈ gs) : Net prog w A nt gs' R := (h.gs_sub hs).le hl
theorem gall {a gs gs' : List (Int × RF)} (h : ∀ p ∈ a, p ∈ gs') (k : ∀ p ∈ gs, p ∈ gs') : ∀ p ∈ a ++ gs, p ∈ gs' := fun p q => (List.mem_append.mp q).elim (h p) (k p)
theorem gsub_app {a b gs : List (Int × RF)} (h : ∀ p ∈ a, p ∈ gs) : ∀ p ∈ a, p ∈ b ++ gs := fun p q => List.mem_append_right _ (h p q)
theorem pw_mux {M B e d r q mm z : Nat} {b : Bool} (hr : r = B ^ e % M) (hq : q = B ^ d % M) (hm : mm = (r * q) % M) (hz : z = if b then mm else r) : z = B ^ (e + b.toNat * d) % M := by
  cases b
  · simpa using hz.trans hr
  · have hz : z = mm := hz
    rw [hz, hm, hr, hq, ← Nat.mul_mod, ← Nat.pow_add]; simp
theorem pw_sq {M B d q z : Nat} (hq : q = B ^ d % M) (hz : z = (q * q) % M) : z = B ^ (d + d) % M := by rw [hz, hq, ← Nat.mul_mod, ← Nat.pow_add]
theorem pw_one {us : List NB} {n i : Nat} (hn : us.length = n) : num us i = num us i ^ 1 % 2 ^ n := by rw [Nat.pow_one, Nat.mod_eq_of_lt (hn ▸ num_lt us i)]
theorem pw_zero {B n z : Nat} (h1 : 1 ≤ n) (h : z = 1) : z = B ^ 0 % 2 ^ n := by
  rw [h, Nat.pow_zero, Nat.mod_eq_of_lt (Nat.one_lt_two_pow (by omega))]
section
variable {prog : Program} {w : World} {A : Around} {E : Value → Shared → Prop} {s : Shared} {h₀ : Heap} {L D : Addr} {m : Str → Option Value} {news : List (Addr × Obj)} {us : List NB} {n c : Nat} {Q : Value → Shared → Prop}
theorem small3 (h : n ≤ 3) : n ≤ 8 := by omega
theorem small4 (h : n ≤ 4) : n ≤ 8 := by omega
theorem len_nb (N : News h₀ L s.heap news) (hm : (D, listOf (vals us) c) ∈ news) (hn : us.length = n) (h8 : n ≤ 8) (h : Q (.int (n : Int) (s.toks + 1)) { s with toks := s.toks + 1 + 1 }) :
    wpAny (model prog w) A (call (.builtin "len") [.ref D]) Q E s :=
  KM.len_K N hm (by simp [vals, hn]) (by omega) h
theorem list_nb (F : Fr h₀ L s.heap m) (N : News h₀ L s.heap news) (hb : (D, listOf (vals us) c) ∈ news) (hn : us.length = n) (h8 : n ≤ 8)
    (h : ∀ D c h', Fr h₀ L h' m → News h₀ L h' ((D, listOf (vals us) c) :: news) → (∀ q ∈ news, q.1 < D) → Q (.ref D) { s with heap := h' }) : wpAny (model prog w) A (call (.type "list") [.ref D]) Q E s :=
  kup_listOf F N hb (by simp [vals]) h (by simp [vals, hn, sizeLine_eq]; omega)
end
end
def clogN (x : Nat) : Nat := ((List.range 9).filter fun q => decide (2 ^ q < x)).length
def Hold (P : Prop) : Prop := P
theorem hold {P : Prop} (h : Hold P) : P := h
section
variable {prog : Program} {w : World} {A : Around} {E : Value → Shared → Prop} {s : Shared} {env : Env} {h₀ : Heap} {x : Str} {body : List Stmt} {Q : Flow → Shared → Prop}
theorem unrMono {L I : Addr} {it : Obj} {r r' : (Str → Option Value) → List (Addr × Obj) → Prop} (hr : ∀ m n, r m n → r' m n) {f : Flow} {s₁ s₂ : Shared} (h : UnrPost h₀ L s₁ I it r Q f s₂) : UnrPost h₀ L s₁ I it r' Q f s₂ := by
  have z : UnrEnd h₀ L s₁ I it r s₂ → UnrEnd h₀ L s₁ I it r' s₂ := fun ⟨h', tk, m', n', e, F, N, o, q⟩ => ⟨h', tk, m', n', e, F, N, o, hr _ _ q⟩
  cases f with
  | ret v => exact h
  | brk => exact h
  | next => exact z h
  | cont => exact z h
theorem rr_inv {I : Addr} {a : Int} {n : Nat} (P : Nat → (Str → Option Value) → List (Addr × Obj) → Prop) (K : Nat)
    (step : ∀ j m news, j < K → P j m news → ∀ t h tk, Fr h₀ env.locals h (fun y => if y = x then some (.int (a + (j : Int)) t) else m y) →
      News h₀ env.locals h ((I, itR (a + ((j + 1 : Nat) : Int)) ((n : Int) - ((j + 1 : Nat) : Int))) :: news) →
      wpAny (model prog w) A (execs body env) (UnrPost h₀ env.locals { s with heap := h, toks := tk } I (itR (a + ((j + 1 : Nat) : Int)) ((n : Int) - ((j + 1 : Nat) : Int))) (P (j + 1)) Q) E { s with heap := h, toks := tk })
    (fin : ∀ m news, P K m news → ∀ h tk, Fr h₀ env.locals h m → News h₀ env.locals h news → Q .next { s with heap := h, toks := tk }) :
    ∀ (k i : Nat) (m : Str → Option Value) (news : List (Addr × Obj)), i + k = K → P i m news → RangeRest prog w A E h₀ env x body Q s I a n k i m news
  | 0, i, m, news, e, p => by
    have e : i = K := e
    subst e
    exact fin m news p
  | k + 1, i, m, news, e, p => fun t h tk F N => wpAny_mono (step i m news (by omega) p t h tk F N) (fun _ _ q => unrMono (fun m' n' p' => rr_inv P K step fin k (i + 1) m' n' (by omega) p') q) fun _ _ e => e
theorem krs_inv {I : Addr} {a c : Int} {n : Nat} (P : Nat → (Str → Option Value) → List (Addr × Obj) → Prop) (K : Nat)
    (step : ∀ j m news, j < K → P j m news → ∀ t h tk, Fr h₀ env.locals h (fun y => if y = x then some (.int (a + (j : Int) * c) t) else m y) →
      News h₀ env.locals h ((I, krsIt (a + ((j + 1 : Nat) : Int) * c) ((n : Int) - ((j + 1 : Nat) : Int)) c) :: news) →
      wpAny (model prog w) A (execs body env) (UnrPost h₀ env.locals { s with heap := h, toks := tk } I (krsIt (a + ((j + 1 : Nat) : Int) * c) ((n : Int) - ((j + 1 : Nat) : Int)) c) (P (j + 1)) Q) E { s with heap := h, toks := tk })
    (fin : ∀ m news, P K m news → ∀ h tk, Fr h₀ env.locals h m → News h₀ env.locals h news → Q .next { s with heap := h, toks := tk }) :
    ∀ (k i : Nat) (m : Str → Option Value) (news : List (Addr × Obj)), i + k = K → P i m news → KrsRest prog w A E h₀ env x body Q s I a c n k i m news
  | 0, i, m, news, e, p => by
    have e : i = K := e
    subst e
    exact fin m news p
  | k + 1, i, m, news, e, p => fun t h tk F N => wpAny_mono (step i m news (by omega) p t h tk F N) (fun _ _ q => unrMono (fun m' n' p' => krs_inv P K step fin k (i + 1) m' n' (by omega) p') q) fun _ _ e => e
end
section
variable {prog : Program} {w : World} {A : Around} {E : Value → Shared → Prop} {s : Shared} {h₀ : Heap} {L D : Addr} {m : Str → Option Value} {news news' : List (Addr × Obj)} {us : List NB} {n c : Nat} {b : NB} {j : Nat} {k : Int} {t : Tok} {value slice : Expr}
theorem item_nb {Q : Value → Shared → Prop} (N : News h₀ L s.heap news) (hm : (D, listOf (vals us) c) ∈ news) (hk : k = (j : Int)) (h9 : j < 9) (hx : us[j]? = some b) (h : Q (.int b.n b.t) s)
    (hs : subscripted slice false (.ref D) (.int k t) = operate [.ref D, .int k t] (getItem (.ref D) (.int k t)) := by with_unfolding_all rfl) :
    wpAny (model prog w) A (subscriptTail value slice (.ref D) (.int k t)) Q E s := by
  subst hk
  exact item_own N hm (by omega) (by omega) (by simp [hx]) h hs
theorem set_nb {Q : Unit → Shared → Prop} (F : Fr h₀ L s.heap m) (N : News h₀ L s.heap news) (U : Upd D (listOf (vals us) c) (listOf (vals (us.set j ⟨b.n, b.t, b.f⟩)) c) news news') (hk : k = (j : Int)) (h9 : j < 9) (hl : j < us.length)
    (h : ∀ h', Fr h₀ L h' m → News h₀ L h' news' → Q () { s with heap := h' }) :
    wpAny (model prog w) A (setItem (.ref D) (.int k t) (.int b.n b.t)) Q E s := by
  subst hk
  obtain ⟨pre, post, rfl, rfl, a, b'⟩ := U.split
  have z := N (D, listOf (vals us) c) (List.mem_append.mpr (.inr (.head _)))
  refine ki_setAt z.1 (by omega) (by omega) (by simp [vals]; omega) (h _ (F.change (Heap.SameBut.update ..) z.2.1 z.2.2) (ki_turn _ N a b' ?_ ?_))
  · show (vals us).setIfInBounds (j : Int).toNat (.int b.n b.t) = _
    apply Array.toList_inj.mp
    simp [vals]
  · simp
theorem mem_nets {gs : List (Int × RF)} (hs : ∀ p ∈ nets us, p ∈ gs) (hx : us[j]? = some b) : (b.n, b.f) ∈ gs := hs _ (List.mem_map.mpr ⟨b, List.mem_of_getElem? hx, rfl⟩)
end
def bitAt (rs : List NB) (b i : Nat) : Bool := match rs[b]? with | some x => x.f i | none => false
theorem rng_down {n : Nat} (h1 : 1 ≤ n) (h4 : n ≤ 4) : Builtin.Range.small ((n : Int) - 1) (-1) (-1) = true ∧ Builtin.Range.rangeSize ((n : Int) - 1) (-1) (-1) = (n : Int) := by
  match n, h1, h4 with
  | 1, _, _ => decide
  | 2, _, _ => decide
  | 3, _, _ => decide
  | 4, _, _ => decide
theorem rng_up {n : Nat} (h4 : n ≤ 4) : Builtin.Range.small 0 (n : Int) 1 = true ∧ Builtin.Range.rangeSize 0 (n : Int) 1 = (n : Int) := by
  match n, h4 with
  | 0, _ => decide
  | 1, _ => decide
  | 2, _ => decide
  | 3, _ => decide
  | 4, _ => decide
theorem vals_rep {k : Nat} {t : Tok} : (List.replicate (Int.toNat (k : Int)) [Value.int 0 t]).flatten.toArray = vals (List.replicate k ⟨0, t, fF⟩) := by
  simp only [Int.toNat_natCast, vals, List.map_replicate]
  congr 1
  induction k with
  | zero => rfl
  | succ k ih => simp [List.replicate_succ, ih]
inductive CInv (prog : Program) (w : World) (A : NA) (R n k : Nat) (lu : Addr) (tw : Tok) (I D lr : Addr) (bs : List (Addr × Obj)) (gl : List (Int × RF)) (x : Nat → Nat) (j : Nat) (m : Str → Option Value) (news : List (Addr × Obj)) : Prop
  | mk (f : Int) (tf : Tok) (ff : RF) (rs : List NB) (c : Nat) (nt : List (Addr × Obj)) (gs : List (Int × RF)) : (news = (D, listOf (vals rs) c) :: (bs ++ nt)) → (Apart ((D, listOf (vals rs) c) :: bs) nt) → ((∀ q ∈ nt, I ≠ q.1)) → (Net prog w A nt gs (R + 6 * (n - j))) → ((f, ff) ∈ gs) → ((∀ p ∈ nets rs, p ∈ gs)) → ((∀ p ∈ gl, p ∈ gs)) → (rs.length = k) → (m (Str.ofString "less") = some (.ref lr)) → (m (Str.ofString "result") = some (.ref D)) → (m (Str.ofString "width") = some (.int (k : Int) tw)) → (m (Str.ofString "found") = some (.int f tf)) → (m (Str.ofString "u") = some (.ref lu)) → ((∀ i, ff i = decide (2 ^ (n - j) ≤ x i))) → ((∀ b, b < k → ∀ i, bitAt rs b i = (decide (2 ^ (n - j) ≤ x i) && (Nat.log2 (x i) + 1).testBit b))) → CInv prog w A R n k lu tw I D lr bs gl x j m news
theorem keep6 {h₀ h : Heap} {L : Addr} {a b c d e f : Addr × Obj} {own nt : List (Addr × Obj)} (N : News h₀ L h (a :: b :: c :: d :: e :: f :: (own ++ nt))) : News h₀ L h (a :: ((c :: e :: f :: own) ++ nt)) :=
  news_sub N (by
    intro p hp
    simp only [List.cons_append, List.mem_cons] at hp ⊢
    rcases hp with h | h | h | h | h
    · exact .inl h
    · exact .inr (.inr (.inl h))
    · exact .inr (.inr (.inr (.inr (.inl h))))
    · exact .inr (.inr (.inr (.inr (.inr (.inl h)))))
    · exact .inr (.inr (.inr (.inr (.inr (.inr h))))))
theorem bitAt_rep {k b i : Nat} {t : Tok} : bitAt (List.replicate k ⟨0, t, fF⟩) b i = false := by
  unfold bitAt
  cases h : (List.replicate k (⟨0, t, fF⟩ : NB))[b]? with
  | none => rfl
  | some x =>
    have := List.mem_of_getElem? h
    rw [List.mem_replicate] at this
    rw [this.2]
theorem nets_rep {k : Nat} {t : Tok} {gs : List (Int × RF)} (h : ((0 : Int), fF) ∈ gs) : ∀ p ∈ nets (List.replicate k ⟨0, t, fF⟩), p ∈ gs := by
  intro p hp
  obtain ⟨x, hx, rfl⟩ := List.mem_map.mp hp
  rw [List.mem_replicate] at hx
  rw [hx.2]; exact h
theorem num_ltn {us : List NB} {n : Nat} (h : us.length = n) (i : Nat) : num us i < 2 ^ n := h ▸ num_lt us i
theorem getL {us : List NB} {n p : Nat} (h : us.length = n) (hp : p < n) : ∃ b, us[p]? = some b := ⟨us[p]'(by omega), by simp⟩
theorem look_neg {m : Str → Option Value} {x y : Str} {v : Value} {u : Option Value} (hm : m y = some v) (h : ¬ y = x) : (fun z => if z = x then u else m z) y = some v := by
  show (if y = x then u else m y) = some v
  rw [if_neg h]; exact hm
inductive DInv (prog : Program) (w : World) (A : NA) (R k : Nat) (lu : Addr) (tw : Tok) (I D lr : Addr) (itp : Addr × Obj) (bs : List (Addr × Obj)) (gl : List (Int × RF)) (h f : Int) (th tf tp : Tok) (p : Nat) (old : Nat → Nat → Bool) (hf : RF) (j : Nat) (m : Str → Option Value) (news : List (Addr × Obj)) : Prop
  | mk (rs : List NB) (c : Nat) (nt : List (Addr × Obj)) (gs : List (Int × RF)) : (news = itp :: (D, listOf (vals rs) c) :: (bs ++ nt)) → (Apart (itp :: (D, listOf (vals rs) c) :: bs) nt) → ((∀ q ∈ nt, I ≠ q.1)) → (Net prog w A nt gs (R + (k - j))) → ((∀ p ∈ nets rs, p ∈ gs)) → ((∀ p ∈ gl, p ∈ gs)) → (rs.length = k) → (m (Str.ofString "less") = some (.ref lr)) → (m (Str.ofString "result") = some (.ref D)) → (m (Str.ofString "width") = some (.int (k : Int) tw)) → (m (Str.ofString "found") = some (.int f tf)) → (m (Str.ofString "u") = some (.ref lu)) → (m (Str.ofString "hit") = some (.int h th)) → (m (Str.ofString "place") = some (.int (p : Int) tp)) → ((∀ b, b < k → ∀ i, bitAt rs b i = (old b i || (decide (b < j) && ((p + 1).testBit b && hf i))))) → DInv prog w A R k lu tw I D lr itp bs gl h f th tf tp p old hf j m news
theorem b_fin1 : ∀ x < 16, ∀ p < 4, (decide (2 ^ (p + 1) ≤ x) || x.testBit p) = decide (2 ^ p ≤ x) := by decide +kernel
theorem b_fin2 : ∀ x < 16, ∀ p < 4, ∀ c < 3, ((decide (2 ^ (p + 1) ≤ x) && (Nat.log2 x + 1).testBit c) || ((p + 1).testBit c && (x.testBit p && !decide (2 ^ (p + 1) ≤ x)))) = (decide (2 ^ p ≤ x) && (Nat.log2 x + 1).testBit c) := by decide +kernel
theorem bit_num : ∀ {us : List NB} {p : Nat} {b : NB} {i : Nat}, us[p]? = some b → b.f i = (num us i).testBit p
  | [], _, _, _, h => by simp at h
  | a :: r, 0, b, i, h => by
    have e : a = b := by simpa using h
    subst e
    show _ = ((a.f i).toNat + 2 * num r i).testBit 0
    rw [Nat.testBit_zero]
    cases a.f i <;> simp <;> omega
  | a :: r, p + 1, b, i, h => by
    have h : r[p]? = some b := by simpa using h
    rw [bit_num h]
    show _ = ((a.f i).toNat + 2 * num r i).testBit (p + 1)
    rw [Nat.testBit_succ]
    congr 1
    have := Bool.toNat_le (a.f i)
    omega
theorem bitAt_set {rs : List NB} {j b i : Nat} {y : NB} (hj : j < rs.length) : bitAt (rs.set j y) b i = if b = j then y.f i else bitAt rs b i := by
  unfold bitAt
  rw [List.getElem?_set]
  by_cases e : j = b
  · subst e; simp [hj]
  · simp [e, Ne.symm e]
theorem bitAt_at {rs : List NB} {j i : Nat} {y : NB} (h : rs[j]? = some y) : bitAt rs j i = y.f i := by unfold bitAt; rw [h]
theorem nets_set {rs : List NB} {j : Nat} {y : NB} {gs : List (Int × RF)} (h : ∀ p ∈ nets rs, p ∈ gs) (hy : (y.n, y.f) ∈ gs) : ∀ p ∈ nets (rs.set j y), p ∈ gs := by
  intro p hp
  obtain ⟨x, hx, rfl⟩ := List.mem_map.mp hp
  rcases List.mem_or_eq_of_mem_set hx with hx | rfl
  · exact h _ (List.mem_map.mpr ⟨x, hx, rfl⟩)
  · exact hy
theorem app3 {α : Type} (a b c : α) (l r : List α) : (a :: b :: c :: l) ++ r = a :: b :: c :: (l ++ r) := rfl
theorem set_nb2 {prog : Program} {w : World} {A : Around} {NA' : NA} {E : Value → Shared → Prop} {s : Shared} {h₀ : Heap} {L D : Addr} {m : Str → Option Value} {news news' nt : List (Addr × Obj)} {us : List NB} {gs : List (Int × RF)} {R c : Nat} {bn : Int} {bt : Tok} {bf : RF} {j : Nat} {k : Int} {t : Tok} {Q : Unit → Shared → Prop}
    (NI : Net prog w NA' nt gs R) (hm : (bn, bf) ∈ gs) (F : Fr h₀ L s.heap m) (N : News h₀ L s.heap news) (hk : k = (j : Int)) (U : Upd D (listOf (vals us) c) (listOf (vals (us.set j ⟨bn, bt, bf⟩)) c) news news') (h9 : j < 9) (hl : j < us.length)
    (h : ∀ h', Fr h₀ L h' m → News h₀ L h' news' → Q () { s with heap := h' }) :
    wpAny (model prog w) A (setItem (.ref D) (.int k t) (.int bn bt)) Q E s := set_nb (b := ⟨bn, bt, bf⟩) F N U hk h9 hl h
theorem b_test : ∀ p : Nat, p < 4 → ∀ c : Nat, c < 3 → decide (Builtin.bitAnd (Int.fdiv ((p : Int) + 1) (2 ^ Int.toNat (c : Int))) 1 = 0) = !(p + 1).testBit c := by decide +kernel
theorem off2 {I D : Addr} {itp : Addr × Obj} {o o' : Obj} {bs nt nt' : List (Addr × Obj)} (l : ∀ p ∈ itp :: (D, o) :: (bs ++ nt), p.1 < I) (h : ∀ q ∈ nt', I ≠ q.1) : ∀ p ∈ itp :: (D, o') :: (bs ++ nt'), p.1 ≠ I := by
  intro p hp
  rcases List.mem_cons.mp hp with rfl | hp
  · have z := l _ List.mem_cons_self; exact Nat.ne_of_lt z
  rcases List.mem_cons.mp hp with rfl | hp
  · have z := l _ (List.mem_cons_of_mem _ List.mem_cons_self); exact Nat.ne_of_lt z
  rcases List.mem_append.mp hp with hp | hp
  · exact Nat.ne_of_lt (l _ (.tail _ (.tail _ (List.mem_append_left _ hp))))
  · exact (h p hp).symm
theorem off1' {I D : Addr} {o o' : Obj} {bs nt nt' : List (Addr × Obj)} (l : ∀ p ∈ (D, o) :: (bs ++ nt), p.1 < I) (h : ∀ q ∈ nt', I ≠ q.1) : ∀ p ∈ (D, o') :: (bs ++ nt'), p.1 ≠ I := by
  intro p hp
  rcases List.mem_cons.mp hp with rfl | hp
  · have z := l _ List.mem_cons_self; exact Nat.ne_of_lt z
  rcases List.mem_append.mp hp with hp | hp
  · exact Nat.ne_of_lt (l _ (.tail _ (List.mem_append_left _ hp)))
  · exact (h p hp).symm
theorem bst0 {rs : List NB} {old : Nat → Nat → Bool} {hf : RF} {T : Nat → Bool} {k j : Nat} (H : ∀ b, b < k → ∀ i, bitAt rs b i = (old b i || (decide (b < j) && (T b && hf i)))) (hT : T j = false) : ∀ b, b < k → ∀ i, bitAt rs b i = (old b i || (decide (b < j + 1) && (T b && hf i))) := by
  intro b hb i
  rw [H b hb i]
  by_cases e : b = j
  · subst e; simp [hT]
  · have : decide (b < j) = decide (b < j + 1) := decide_eq_decide.mpr (by omega)
    rw [this]
theorem bst1 {rs : List NB} {old : Nat → Nat → Bool} {hf : RF} {T : Nat → Bool} {k j : Nat} {y : NB} {r : Int} {t : Tok} (H : ∀ b, b < k → ∀ i, bitAt rs b i = (old b i || (decide (b < j) && (T b && hf i)))) (hj : j < k) (hl : rs.length = k) (hy : rs[j]? = some y) (hT : T j = true) :
    ∀ b, b < k → ∀ i, bitAt (rs.set j ⟨r, t, fun i => y.f i || hf i⟩) b i = (old b i || (decide (b < j + 1) && (T b && hf i))) := by
  intro b hb i
  rw [bitAt_set (by omega)]
  by_cases e : b = j
  · subst e
    have h1 := H b hb i
    rw [bitAt_at hy] at h1
    simp only [Nat.lt_irrefl, decide_false, Bool.false_and, Bool.or_false] at h1
    rw [if_pos rfl]
    dsimp only
    rw [h1, hT]; simp
  · have : decide (b < j) = decide (b < j + 1) := decide_eq_decide.mpr (by omega)
    rw [if_neg e, H b hb i, this]
theorem offD5 {h₀ hh : Heap} {L a b c d e D : Addr} {x : Addr × Obj} {o1 o2 o3 : Obj} {own nt : List (Addr × Obj)} (_N : News h₀ L hh (x :: (((b, o1) :: (d, o2) :: (e, o3) :: own) ++ nt))) (h : @LT.lt Nat _ a D ∧ @LT.lt Nat _ b D ∧ @LT.lt Nat _ c D ∧ @LT.lt Nat _ d D ∧ @LT.lt Nat _ e D ∧ AllLt D (own ++ nt)) : OffD D ((b, o1) :: (d, o2) :: (e, o3) :: own) := by
  obtain ⟨_, h2, _, h4, h5, h6⟩ := h
  have h6 := ktn_ltOf h6
  intro p hp
  rcases List.mem_cons.mp hp with rfl | hp
  · exact Nat.ne_of_lt h2
  rcases List.mem_cons.mp hp with rfl | hp
  · exact Nat.ne_of_lt h4
  rcases List.mem_cons.mp hp with rfl | hp
  · exact Nat.ne_of_lt h5
  · exact Nat.ne_of_lt (h6 p (List.mem_append_left _ hp))
section
variable {prog : Program} {w : World} {A : Around} {E : Value → Shared → Prop} {h₀ : Heap} {env : Env} {x : Str} {body : List Stmt} {Q : Flow → Shared → Prop} {s : Shared}
theorem lst_inv {I : Addr} {lp : Addr × Obj} {all : List Value} (P : Nat → (Str → Option Value) → List (Addr × Obj) → Prop)
    (keep : ∀ j m news, P j m news → lp ∈ news)
    (step : ∀ j m news v, all[j]? = some v → P j m news → ∀ (it : Obj) h tk, it.cls = .type "list_iterator" → Fr h₀ env.locals h (fun y => if y = x then some v else m y) → News h₀ env.locals h ((I, it) :: news) →
      wpAny (model prog w) A (execs body env) (UnrPost h₀ env.locals { s with heap := h, toks := tk } I it (P (j + 1)) Q) E { s with heap := h, toks := tk })
    (fin : ∀ m news, P all.length m news → ∀ h tk, Fr h₀ env.locals h m → News h₀ env.locals h news → Q .next { s with heap := h, toks := tk }) :
    ∀ (r : List Value) (i : Nat) (m : Str → Option Value) (news : List (Addr × Obj)), i ≤ all.length → all.drop i = r → P i m news → ListRest prog w A E h₀ env x body Q s I lp r m news
  | [], i, m, news, hi, e, p => by
    have : i = all.length := by
      have := congrArg List.length e
      simp at this; omega
    subst this
    exact fin m news p
  | v :: r, i, m, news, hi, e, p => fun it h tk hc F N => by
    have hv : all[i]? = some v := by
      have := congrArg List.head? e
      simpa using this
    have hl : i < all.length := (List.getElem?_eq_some_iff.mp hv).1
    have e2 : all.drop (i + 1) = r := by
      have := congrArg List.tail e
      simpa using this
    exact wpAny_mono (step i m news v hv p it h tk hc F N) (fun _ _ q => unrMono (fun m' n' p' => ⟨keep _ _ _ p', lst_inv P keep step fin r (i + 1) m' n' hl e2 p'⟩) q) fun _ _ e => e
end
def wnat (f : RF) : Nat → Nat
  | 0 => 0
  | k + 1 => wnat f k + (f k).toNat * 2 ^ k
theorem num_take {us : List NB} {j i : Nat} {b : NB} (h : us[j]? = some b) : num (us.take (j + 1)) i = num (us.take j) i + (b.f i).toNat * 2 ^ j := by
  induction us generalizing j with
  | nil => simp at h
  | cons a r ih =>
    cases j with
    | zero =>
      have e : a = b := by simpa using h
      subst e
      show (a.f i).toNat + 2 * num (r.take 0) i = num [] i + (a.f i).toNat * 2 ^ 0
      rw [List.take_zero]
      simp [num, nm]
    | succ j =>
      have h : r[j]? = some b := by simpa using h
      show (a.f i).toNat + 2 * num (r.take (j + 1)) i = (a.f i).toNat + 2 * num (r.take j) i + _
      rw [ih h, Nat.pow_succ]
      have : (b.f i).toNat * (2 ^ j * 2) = 2 * ((b.f i).toNat * 2 ^ j) := by rw [← Nat.mul_assoc, Nat.mul_comm]
      omega
def NmMark : Prop := True
def Le4 (n : Nat) : Prop := n ≤ 4
theorem sm4 {n : Nat} (h : Le4 n) : n ≤ 8 := Nat.le_trans h (by decide)
theorem num_app {us : List NB} {b : NB} {i : Nat} : num (us ++ [b]) i = num us i + (b.f i).toNat * 2 ^ us.length := by
  have h := num_take (us := us ++ [b]) (j := us.length) (b := b) (i := i) (by simp)
  rw [List.take_of_length_le (by simp), List.take_left] at h
  exact h
theorem app_nb {prog : Program} {w : World} {A : Around} {NA' : NA} {E : Value → Shared → Prop} {s : Shared} {h₀ : Heap} {L D : Addr} {m : Str → Option Value} {news news' nt : List (Addr × Obj)} {us : List NB} {gs : List (Int × RF)} {R c : Nat} {bn : Int} {bt : Tok} {bf : RF} {Q : Value → Shared → Prop}
    (_NI : Net prog w NA' nt gs R) (_hm : (bn, bf) ∈ gs) (F : Fr h₀ L s.heap m) (N : News h₀ L s.heap news) (U : Upd D (listOf (vals us) c) (listOf (vals (us ++ [⟨bn, bt, bf⟩])) (c + 1)) news news') (hl : us.length ≤ 100)
    (h : ∀ h', Fr h₀ L h' m → News h₀ L h' news' → Q .none { s with heap := h' }) :
    wpAny (model prog w) A (call (.builtin "list.append") [.ref D, .int bn bt]) Q E s := by
  have e : vals (us ++ [⟨bn, bt, bf⟩]) = (vals us).push (.int bn bt) := by simp [vals]
  rw [e] at U
  exact append_K F N U h (by simp [vals, sizeLine_eq]; omega)
theorem nets_app {rs : List NB} {y : NB} {gs : List (Int × RF)} (h : ∀ p ∈ nets rs, p ∈ gs) (hy : (y.n, y.f) ∈ gs) : ∀ p ∈ nets (rs ++ [y]), p ∈ gs := by
  intro p hp
  obtain ⟨x, hx, rfl⟩ := List.mem_map.mp hp
  rcases List.mem_append.mp hx with hx | hx
  · exact h _ (List.mem_map.mpr ⟨x, hx, rfl⟩)
  · rw [List.mem_singleton.mp hx]; exact hy
theorem ap_new {D : Addr} {o : Obj} {own nt : List (Addr × Obj)} (Ap : Apart own nt) (h : ∀ p ∈ own ++ nt, p.1 ≠ D) : Apart ((D, o) :: own) nt := fun x hx q hq => by
  rcases List.mem_cons.mp hx with rfl | hx
  · exact Ne.symm (h q (List.mem_append_right _ hq))
  · exact Ap x hx q hq
theorem ap_obj {D : Addr} {o o' : Obj} {own nt : List (Addr × Obj)} (h : Apart ((D, o) :: own) nt) : Apart ((D, o') :: own) nt := fun x hx => by
  rcases List.mem_cons.mp hx with rfl | hx
  · exact h (D, o) (.head _)
  · exact h x (.tail _ hx)
theorem ap_lt {T : Addr} {o : Obj} {x : Addr × Obj} {own nt : List (Addr × Obj)} (h : Apart (x :: own) nt) (l : ∀ p ∈ x :: (own ++ nt), p.1 < T) : Apart ((T, o) :: x :: own) nt := fun y hy q hq => by
  rcases List.mem_cons.mp hy with rfl | hy
  · exact Nat.ne_of_gt (l q (.tail _ (List.mem_append_right _ hq)))
  · exact h y hy q hq
theorem all_of {D T : Nat} {o : Obj} {l : List (Addr × Obj)} (h : @LT.lt Nat _ D T ∧ AllLt T l) : ∀ p ∈ ((D, o) :: l : List (Addr × Obj)), p.1 < T := fun p hp => by
  rcases List.mem_cons.mp hp with rfl | hp
  · exact h.1
  · exact ktn_ltOf h.2 p hp
theorem full_add : ∀ a b k : Bool, (((a != b) != k).toNat + 2 * ((a && b) || ((a != b) && k)).toNat = a.toNat + b.toNat + k.toNat) := by decide
theorem add_step {A P U V z s c' b c k : Nat} (h : A + P * k = U + V + z) (hb : s + 2 * c' = b + c + k) : A + s * P + P * 2 * c' = U + b * P + (V + c * P) + z := by
  have e := congrArg (fun x => x * P) hb
  simp only [Nat.add_mul] at e
  have e1 : P * 2 * c' = 2 * c' * P := by rw [Nat.mul_comm P 2, Nat.mul_assoc, Nat.mul_assoc, Nat.mul_comm P c']
  have e2 : P * k = k * P := Nat.mul_comm _ _
  omega
theorem ap_off {D : Addr} {o : Obj} {cp : Addr × Obj} {own nt : List (Addr × Obj)} (Ap : Apart own nt) (h : OffD D (cp :: (own ++ nt))) : Apart ((D, o) :: own) nt := fun x hx q hq => by
  rcases List.mem_cons.mp hx with rfl | hx
  · exact Ne.symm (h q (.tail _ (List.mem_append_right _ hq)))
  · exact Ap x hx q hq
theorem news_dropV {h₀ h : Heap} {L : Addr} {d a : Addr × Obj} {r : List (Addr × Obj)} (N : News h₀ L h (d :: a :: r)) : News h₀ L h (d :: r) := fun p hp => N p (by
  rcases List.mem_cons.mp hp with rfl | hp
  · exact .head _
  · exact .tail _ (.tail _ hp))
section
variable {prog : Program} {w : World} {A : Around} {h₀ : Heap} {L : Addr} {m : Str → Option Value} {env : Env} {elt : Expr} {x : Str} {scope : Scope} {cl : List (Str × Addr)} {s : Shared} {S : List (Addr × Obj) → Prop} {Pv : Nat → Value → Prop} {Fin : List Value → List (Addr × Obj) → Prop}
theorem cr_inv (P : Nat → List Value → List (Addr × Obj) → Prop) (K : Nat)
    (step : ∀ j ys news, j < K → P j ys news → ∀ v I oI C oC D m₂ h tk (E' : Value → Shared → Prop), Pv j v → LCg.NsObj oC m₂ → m₂ x = some v → Fr h₀ L h m → News h₀ L h ((I, oI) :: (C, oC) :: (D, LCg.lst ys) :: news) → LCg.Off3 I C D news → ((@Ne Nat I C) ∧ (@Ne Nat I D) ∧ (@Ne Nat C D)) →
      wpAny (model prog w) A (eval elt (compEnvC scope cl C env)) (LCg.CompEnd h₀ L m { s with heap := h, toks := tk } I oI C oC D (LCg.lst ys) S (fun y news' => P (j + 1) (ys ++ [y]) news')) E' { s with heap := h, toks := tk })
    (fin : ∀ ys news, P K ys news → Fin ys news) :
    ∀ (k i : Nat) (ys : List Value) (news : List (Addr × Obj)), i + k = K → P i ys news → LCg.CompRest prog w A h₀ L m env elt x scope cl s S Pv Fin k i ys news
  | 0, i, ys, news, e, p => by
    have e : i = K := e
    subst e
    exact fin ys news p
  | k + 1, i, ys, news, e, p => fun v I oI C oC D m₂ h tk E' a1 a2 a3 a4 a5 a6 a7 => wpAny_mono (step i ys news (by omega) p v I oI C oC D m₂ h tk E' a1 a2 a3 a4 a5 a6 a7)
      (fun _ _ ⟨h', tk', n', e1, e2, e3, e4, e5, e6⟩ => ⟨h', tk', n', e1, e2, e3, e4, e5, cr_inv P K step fin k (i + 1) _ n' (by omega) e6⟩) fun _ _ e => e
end
section
variable {prog : Program} {w : World} {A : Around} {E : Value → Shared → Prop} {s : Shared} {h₀ : Heap} {L D : Addr} {news : List (Addr × Obj)} {us : List NB} {c : Nat} {k : Int} {t : Tok} {value slice : Expr} {Q : Value → Shared → Prop}
theorem item_sym (N : News h₀ L s.heap news) (hm : (D, listOf (vals us) c) ∈ news) (h8 : us.length ≤ 8) (h0 : 0 ≤ k) (h1 : k < us.length) (h : ∀ b, b ∈ us → Q (.int b.n b.t) s)
    (hs : subscripted slice false (.ref D) (.int k t) = operate [.ref D, .int k t] (getItem (.ref D) (.int k t)) := by with_unfolding_all rfl) :
    wpAny (model prog w) A (subscriptTail value slice (.ref D) (.int k t)) Q E s := by
  obtain ⟨b, hb⟩ := getL (us := us) (p := k.toNat) rfl (by omega)
  exact item_own (v := .int b.n b.t) N hm h0 (by omega) (by simp [hb]) (h b (List.mem_of_getElem? hb)) hs
end
theorem off_turn {I C D : Addr} : ∀ {l l' : List (Addr × Obj)}, LCg.Off3 I C D l → l.map Prod.fst = l'.map Prod.fst → LCg.Off3 I C D l'
  | [], [], _, _ => trivial
  | [], _ :: _, _, e => by simp at e
  | _ :: _, [], _, e => by simp at e
  | p :: r, q :: r', h, e => by
    simp only [List.map_cons, List.cons.injEq] at e
    exact ⟨e.1 ▸ h.1, off_turn h.2 e.2⟩
theorem hi_ne2 {h₀ hh : Heap} {L a b H : Nat} {oa ob o o' o'' : Obj} {r r' r'' : List (Addr × Obj)} (_N : News h₀ L hh ((a, oa) :: (b, ob) :: (H, o) :: r)) (h1 : Hi a ((H, o') :: r')) (h2 : Hi b ((H, o'') :: r'')) : a ≠ H ∧ b ≠ H := by
  have := h1 _ List.mem_cons_self
  have := h2 _ List.mem_cons_self
  dsimp only at *
  constructor <;> omega
theorem nets_snoc {rs : List NB} {gs : List (Int × RF)} {n : Int} {t : Tok} {f : RF} (h : ∀ x ∈ nets rs, x ∈ gs) (hn : (n, f) ∈ gs) : ∀ x ∈ nets (rs ++ [⟨n, t, f⟩]), x ∈ gs := by
  intro x hx
  rw [nets, List.map_append] at hx
  rcases List.mem_append.mp hx with hx | hx
  · exact h x hx
  · rw [List.mem_singleton.mp hx]; exact hn
theorem map_snoc {rs : List NB} {n : Int} {t : Tok} {f : RF} : rs.map NB.val ++ [Value.int n t] = (rs ++ [(⟨n, t, f⟩ : NB)]).map NB.val := by simp
theorem len_snoc {rs : List NB} {b : NB} {j : Nat} (h : rs.length = j) : (rs ++ [b]).length = j + 1 := by simp [h]
theorem bit01 {r : Int} {gs : List (Int × RF)} (h1 : r < 2) (h0 : 0 ≤ r) (g0 : ((0 : Int), fF) ∈ gs) (g1 : ((1 : Int), fT) ∈ gs) : ∃ f, (r, f) ∈ gs := by
  rcases (show r = 0 ∨ r = 1 by omega) with rfl | rfl
  · exact ⟨_, g0⟩
  · exact ⟨_, g1⟩
theorem off_drop2 {D : Addr} {a b : Addr × Obj} {r : List (Addr × Obj)} (h : OffD D (a :: b :: r)) : OffD D r := fun p hp => h p (.tail _ (.tail _ hp))
theorem news_drop2 {h₀ h : Heap} {L : Addr} {d a b : Addr × Obj} {r : List (Addr × Obj)} (N : News h₀ L h (d :: a :: b :: r)) : News h₀ L h (d :: r) := fun p hp => N p (by
  rcases List.mem_cons.mp hp with rfl | hp
  · exact .head _
  · exact .tail _ (.tail _ (.tail _ hp)))
section
variable {prog : Program} {w : World} {A : Around} {E : Value → Shared → Prop} {s : Shared} {h₀ : Heap} {L a b : Addr} {m : Str → Option Value} {news : List (Addr × Obj)} {us vs : List NB} {ea eb y : Nat} {Q : Value → Shared → Prop} {value slice : PySem.Expr} {tv : Tok}
theorem add_nb (F : Fr h₀ L s.heap m) (N : News h₀ L s.heap news) (ha : (a, listOf (vals us) ea) ∈ news) (hb : (b, listOf (vals vs) eb) ∈ news) (h3 : us.length ≤ 3) (h4 : vs.length ≤ 3)
    (h : ∀ D h', Fr h₀ L h' m → News h₀ L h' ((D, listOf (vals (us ++ vs)) 0) :: news) → (∀ p ∈ news, p.1 < D) → Q (.ref D) { s with heap := h' }) :
    wpAny (model prog w) A (binaryOp .Add (.ref a) (.ref b)) Q E s :=
  kmk_add_lit F N (News.isList N ha) (News.isList N hb) (zs := (us ++ vs).map NB.val) (by simp [vals]) (fun D h' F' N' l => h D h' F' N' l) (by simp only [vals, List.length_map, sizeLine_eq]; omega)
theorem slice_nb {z : Int} (F : Fr h₀ L s.heap m) (N : News h₀ L s.heap news) (ha : (a, listOf (vals us) ea) ∈ news) (h3 : us.length ≤ 100) (hz : 0 ≤ z)
    (h : ∀ D h', Fr h₀ L h' m → News h₀ L h' ((D, listOf (vals (us.take z.toNat)) 0) :: news) → (∀ p ∈ news, p.1 < D) → Q (.ref D) { s with heap := h' })
    (hs : subscripted slice false (.ref a) (.ref s.heap.objs.size) = operate [.ref s.heap.objs.size, .ref a] (getItem (.ref a) (.ref s.heap.objs.size))) :
    wpAny (model prog w) A (subscriptTail value slice (.ref a) (.ref s.heap.objs.size)) Q E { s with heap := s.heap.push { cls := .type "slice", data := .fields #[.none, .int z tv, .none] } } := by
  refine kba_turn (value' := PySem.Expr.Name (PySem.Str.ofString "_") ⟨0, 0, 0, 0⟩) (fun _ => rfl) ?_
  obtain ⟨y, rfl⟩ : ∃ y : Nat, z = (y : Int) := ⟨z.toNat, by omega⟩
  rw [Int.toNat_natCast] at h
  refine kmk_slice F N (News.isList N ha) IsPart.none (IsPart.int (y : Int) tv) (fun D h' F' N' l => h D h' F' ?_ l) hs (fun _ => rfl) (by simp [vals, sizeLine_eq]; omega)
  have e : sliceBounds none (some (y : Int)) none (vals us).size = (((0 : Nat) : Int), ((min y (vals us).size : Nat) : Int), 1) := by
    simp only [sliceBounds, Option.getD_none, show (1 : Int) > 0 by decide, if_true, if_neg (show ¬ ((y : Int) < 0) by omega)]
    congr 1
    congr 1
    omega
  rw [kmk_pick_nat _ e] at N'
  have e2 : (((vals us).toList.drop 0).take (min y (vals us).size - 0)).toArray = vals (us.take y) := by
    simp only [vals, List.drop_zero, Nat.sub_zero, List.size_toArray, List.map_take]
    congr 1
    exact kmk_take_min _ _
  rw [e2] at N'
  exact N'
end
section
variable {prog : Program} {w : World} {A : Around} {E : Value → Shared → Prop} {s : Shared} {h₀ : Heap} {L D₀ : Addr} {m : Str → Option Value} {news : List (Addr × Obj)} {n c : Nat} {Q : Value → Shared → Prop} {k : Int}
theorem rep_nb {x : Int} {t u : Tok} (f : RF) (F : Fr h₀ L s.heap m) (N : News h₀ L s.heap news) (hb : (D₀, listOf #[Value.int x t] c) ∈ news) (hk : k = (n : Int)) (h8 : n ≤ 8)
    (h : ∀ D h', Fr h₀ L h' m → News h₀ L h' ((D, listOf (vals (List.replicate n ⟨x, t, f⟩)) 0) :: news) → (∀ p ∈ news, p.1 < D) → Q (.ref D) { s with heap := h' }) :
    wpAny (model prog w) A (binaryOp .Mult (.ref D₀) (.int k u)) Q E s := by
  subst hk
  have e : (List.replicate (Int.toNat (n : Int)) [Value.int x t]).flatten.toArray = vals (List.replicate n ⟨x, t, f⟩) := by
    rw [Int.toNat_natCast]
    induction n with
    | zero => rfl
    | succ k ih => simp [List.replicate_succ, vals]
  refine KM.mul (vs := [Value.int x t]) (ns := [x]) F N (News.isList N hb) (.cons _ _ .nil) (by omega) (by omega) (by simp; omega) fun D h' F' N' l _ _ _ _ _ _ => h D h' F' ?_ l
  rw [← e]; exact N'
end
theorem num_rep {n i : Nat} {t : Tok} : num (List.replicate n ⟨0, t, fF⟩) i = 0 := by
  unfold num
  induction n with
  | zero => rfl
  | succ k ih => rw [List.replicate_succ, List.map_cons, nm, ih]; rfl
theorem mul_bud {R n j : Nat} (h : j < n) : R + (n - (j + 1)) * (6 * n) + 5 * n + (n - j) ≤ R + (n - j) * (6 * n) := by
  have e : (n - j) * (6 * n) = (n - (j + 1)) * (6 * n) + 6 * n := by rw [show n - j = (n - (j + 1)) + 1 by omega, Nat.succ_mul]
  omega
theorem num_append {a b : List NB} {i : Nat} : num (a ++ b) i = num a i + 2 ^ a.length * num b i := by
  unfold num
  induction a with
  | nil => simp [nm]
  | cons x r ih =>
    have e : 2 ^ (r.length + 1) = 2 * 2 ^ r.length := by rw [Nat.pow_succ, Nat.mul_comm]
    simp only [List.cons_append, List.map_cons, nm, ih, List.length_cons, e, Nat.mul_add, Nat.mul_assoc, Nat.add_assoc]
theorem and_step {U Y P : Nat} {b d : Bool} (h : Y = d.toNat * U) : Y + (b && d).toNat * P = d.toNat * (U + b.toNat * P) := by
  subst h; cases b <;> cases d <;> simp
theorem mul_step {U V Ut T c d n j H : Nat} (hT : T + 2 ^ n * c = U * V % 2 ^ n + 2 ^ j * (d * Ut)) (hlt : T < 2 ^ n) (hU : U = Ut + 2 ^ (n - j) * H) (hj : j ≤ n) : T = U * (V + d * 2 ^ j) % 2 ^ n := by
  have e1 : T = (U * V % 2 ^ n + 2 ^ j * (d * Ut)) % 2 ^ n := by rw [← hT, Nat.add_mul_mod_self_left, Nat.mod_eq_of_lt hlt]
  have e2 : 2 ^ n = 2 ^ j * 2 ^ (n - j) := by rw [← Nat.pow_add]; congr 1; omega
  have e3 : U * (V + d * 2 ^ j) = U * V + 2 ^ j * (d * Ut) + 2 ^ n * (d * H) := by
    have : U * (d * 2 ^ j) = 2 ^ j * (d * Ut) + 2 ^ n * (d * H) := by
      rw [e2, hU, Nat.add_mul]
      congr 1
      · simp only [Nat.mul_comm, Nat.mul_left_comm, Nat.mul_assoc]
      · simp only [Nat.mul_comm, Nat.mul_left_comm, Nat.mul_assoc]
    rw [Nat.mul_add, this, Nat.add_assoc]
  rw [e1, e3, Nat.add_mul_mod_self_left, Nat.mod_add_mod]
theorem nets_repapp {k : Nat} {t : Tok} {ys : List NB} {gs : List (Int × RF)} (h : ((0 : Int), fF) ∈ gs) (hy : ∀ p ∈ nets ys, p ∈ gs) : ∀ p ∈ nets (List.replicate k ⟨0, t, fF⟩ ++ ys), p ∈ gs := by
  intro p hp
  simp only [nets, List.map_append] at hp
  rcases List.mem_append.mp hp with hp | hp
  · exact nets_rep h p hp
  · exact hy p hp
theorem mul_ap {h₀ h : Heap} {L : Addr} {a b c D S : Nat} {o1 o2 o3 o4 : Obj} {own nt : List (Addr × Obj)} (_N : News h₀ L h ((D, o1) :: (((S, o2) :: (b, o4) :: (c, o3) :: own) ++ nt))) (Ap : Apart ((c, o3) :: own) nt) (hI : ∀ q ∈ nt, b ≠ q.1) (l4 : a < D ∧ b < D ∧ c < D ∧ AllLt D (own ++ nt)) (l5 : D < S ∧ a < S ∧ b < S ∧ c < S ∧ AllLt S (own ++ nt)) :
    Apart ((D, o1) :: (S, o2) :: (b, o4) :: (c, o3) :: own) nt := fun x hx q hq => by
  have m := List.mem_append_right own hq
  rcases List.mem_cons.mp hx with rfl | hx
  · exact Nat.ne_of_gt (ktn_ltOf l4.2.2.2 q m)
  rcases List.mem_cons.mp hx with rfl | hx
  · exact Nat.ne_of_gt (ktn_ltOf l5.2.2.2.2 q m)
  rcases List.mem_cons.mp hx with rfl | hx
  · exact hI q hq
  · exact Ap x hx q hq
theorem snil (l : List NB) : l = l ++ [] := (List.append_nil l).symm
theorem take_at {us : List NB} {q k : Nat} {v : Value} (h : ((us.take q).map NB.val)[k]? = some v) : ∃ b, us[k]? = some b ∧ k < q ∧ v = .int b.n b.t := by
  rw [List.getElem?_map, List.getElem?_take] at h
  split at h
  · obtain ⟨b, hb, e⟩ := Option.map_eq_some_iff.mp h
    exact ⟨b, hb, by assumption, e.symm⟩
  · simp at h
theorem off_mix {W I : Addr} {o o' : Obj} {bs nt nt' : List (Addr × Obj)} (h : ∀ q ∈ (W, o) :: (bs ++ nt), q.1 ≠ I) (k : ∀ q ∈ nt', I ≠ q.1) : ∀ q ∈ (W, o') :: (bs ++ nt'), q.1 ≠ I := fun q hq => by
  rcases List.mem_cons.mp hq with rfl | hq
  · exact h (W, o) (.head _)
  rcases List.mem_append.mp hq with hq | hq
  · exact h q (.tail _ (List.mem_append_left _ hq))
  · exact (k q hq).symm
section
variable {prog : Program} {w : World} {A : Around} {E : Value → Shared → Prop} {s : Shared} {env : Env} {h₀ : Heap} {L : Addr} {test : PySem.Expr} {body orelse : List Stmt} {Q : Flow → Shared → Prop}
theorem whl_ind (P : Nat → (Str → Option Value) → List (Addr × Obj) → Prop)
    (step : ∀ k m news, (∀ k', k' < k → ∀ m' news', P k' m' news' → ∀ h' tk', Fr h₀ L h' m' → News h₀ L h' news' → WhlRest prog w A E env test body orelse Q 0 { s with heap := h', toks := tk' }) →
      P k m news → ∀ h tk, Fr h₀ L h m → News h₀ L h news → WhlRest prog w A E env test body orelse Q (0 + 1) { s with heap := h, toks := tk }) :
    ∀ (k : Nat) (m : Str → Option Value) (news : List (Addr × Obj)), P k m news → ∀ h tk, Fr h₀ L h m → News h₀ L h news → WhlRest prog w A E env test body orelse Q 0 { s with heap := h, toks := tk } := fun k => by
  induction k using Nat.strongRecOn with
  | _ k ih => exact fun m news p h tk F N => step k m news (fun k' hk m' news' p' h' tk' F' N' => ih k' hk m' news' p' h' tk' F' N') p h tk F N
end
theorem one_sub {R n j : Nat} (h : j < n) : R + (n - (j + 1)) + 1 ≤ R + (n - j) := by omega
theorem six_sub {R n j : Nat} (h : j < n) : R + 6 * (n - (j + 1)) + 6 ≤ R + 6 * (n - j) := by omega
theorem lt_of_split {n j p : Nat} (h : n = j + 1 + p) : p < n := by omega
theorem split_of {n j : Nat} (h : j < n) : ∃ p, n = j + 1 + p := ⟨n - (j + 1), by omega⟩
theorem down_int {n j p : Nat} (h : n = j + 1 + p) : (n : Int) - 1 + (j : Int) * (-1) = (p : Int) := by omega
theorem split_1 {n j p : Nat} (h : n = j + 1 + p) : n - j = p + 1 := by omega
theorem split_2 {n j p : Nat} (h : n = j + 1 + p) : n - (j + 1) = p := by omega
theorem lt4_of {n j p : Nat} (h : n = j + 1 + p) (h4 : n ≤ 4) : p < 4 := by omega
theorem nn_sub {n j : Nat} (h : j < n) : (0 : Int) ≤ (n : Int) - (j : Int) := by omega
theorem even_int (j : Nat) : (0 : Int) + (j : Int) * 2 = ((2 * j : Nat) : Int) := by omega
theorem half_0 {k j : Nat} (h : j < k / 2) : 2 * j + 1 < k := by omega
theorem half_1 {q : Nat} : 1 ≤ (q + 1 + 1) / 2 := by omega
theorem half_2 {q : Nat} (h : 1 < ((q + 1 : Nat) : Int)) : (q + 1 + 1) / 2 < q + 1 := by omega
theorem half_3 {R q : Nat} : R + (q + 1 + 1) / 2 ≤ R + (q + 1 - (q + 1) / 2) := by omega
theorem half_4 {q : Nat} : (q + 1 + 1) / 2 ≤ q + 1 := by omega
theorem half_5 {q l : Nat} (h : (q + 1) % 2 = 1) (hl : l = (q + 1) / 2) : l + 1 = (q + 1 + 1) / 2 := by omega
theorem half_6 {q l : Nat} (h : (q + 1) % 2 = 0) (hl : l = (q + 1) / 2) : l = (q + 1 + 1) / 2 := by omega
theorem half_7 {q : Nat} (h : (q + 1) % 2 = 1) : 2 * ((q + 1) / 2) = q := by omega
theorem half_8 {q : Nat} (h : (q + 1) % 2 = 0) : 2 * ((q + 1) / 2) = q + 1 := by omega
end Mine93
-- N2q
namespace Mine93
section
variable {prog : Program} {w : World} {A : Around} {E : Value → Shared → Prop} {R : Result → Shared → Prop} {s : Shared}

theorem compTurn_in (g : Comprehension) (elt target iter : Expr) (scope : Scope) (pos : Pos) (it acc : Value) (env : Env) :
    compTurn (.ListComp elt [g, ⟨target, iter, [], 0⟩] scope pos) 1 it acc env = (standAt iter.pos >>= fun _ => pyNext it >>= fun r => match r with
      | none => pure (.done .next)
      | some v => letOwnedTupleGo target it v >>= fun _ => assign target env v >>= fun _ =>
        (eval elt env >>= fun x => call (.builtin "list.append") [acc, x] >>= fun _ => pure ()) >>= fun _ =>
          again (.compLoop (.ListComp elt [g, ⟨target, iter, [], 0⟩] scope pos) 1 it acc env)) := by rfl
theorem compTurn_out (target iter elt target₂ iter₂ : Expr) (scope : Scope) (pos : Pos) (it acc : Value) (env : Env) :
    compTurn (.ListComp elt [⟨target, iter, [], 0⟩, ⟨target₂, iter₂, [], 0⟩] scope pos) 0 it acc env = (standAt iter.pos >>= fun _ => pyNext it >>= fun r => match r with
      | none => pure (.done .next)
      | some v => letOwnedTupleGo target it v >>= fun _ => assign target env v >>= fun _ =>
        (eval iter₂ env >>= fun x => standAt iter₂.pos >>= fun _ => foldedSetIterable iter₂ env x >>= fun x => holding [x] (pyIter x) >>= fun it₂ => runOwn (.compStart (.ListComp elt [⟨target, iter, [], 0⟩, ⟨target₂, iter₂, [], 0⟩] scope pos) 1 it₂ acc env) env >>= fun _ =>
          again (.compLoop (.ListComp elt [⟨target, iter, [], 0⟩, ⟨target₂, iter₂, [], 0⟩] scope pos) 0 it acc env))) := by rfl
theorem loop_in {g : Comprehension} {elt target iter : Expr} {scope : Scope} {pos : Pos} {it acc : Value} {env : Env} (I : Nat → Shared → Prop)
    (turn : ∀ n s, I n s → wpAny (model prog w) A (pyNext it) (fun r s₁ => match r with
      | none => R (.ok .next) s₁
      | some v => wpAny (model prog w) A (assign target env v) (fun _ s₂ => wpAny (model prog w) A (eval elt env) (fun x s₃ =>
          wpAny (model prog w) A (call (.builtin "list.append") [acc, x]) (fun _ s₄ => ∃ m, m < n ∧ I m s₄) (notedBy (model prog w) A env fun e s' => R (.error e) s') s₃)
          (notedBy (model prog w) A env fun e s' => R (.error e) s') s₂) (notedBy (model prog w) A env fun e s' => R (.error e) s') s₁) (notedBy (model prog w) A env fun e s' => R (.error e) s') s)
    (n : Nat) (h : I n s) (ht : ∀ v, letOwnedTupleGo target it v = pure () := by intro _; rfl) :
    codeAny (model prog w) A (.compLoop (.ListComp elt [g, ⟨target, iter, [], 0⟩] scope pos) 1 it acc env) R s := by
  refine codeAny_loop rfl I (fun n s hI => ?_) n h
  show wpAny _ _ ((compTurn (.ListComp elt [g, ⟨target, iter, [], 0⟩] scope pos) 1 it acc env).onRaise (fun x => do noteFrame x env; theTreesLotGoes x)) _ _ s
  refine wpAny_noted ?_
  rw [compTurn_in]
  refine wpAny_bind (wpAny_standAt (wpAny_bind (wpAny_mono (turn n s hI) (fun r s₁ h₁ => ?_) fun _ _ h' => h')))
  cases r with
  | none => exact wpAny_pure h₁
  | some v =>
    refine wpAny_bind (wpAny_of_eq (ht v) ?_)
    exact wpAny_bind (wpAny_mono h₁ (fun _ s₂ h₂ => wpAny_bind (wpAny_bind (wpAny_mono h₂ (fun x s₃ h₃ => wpAny_bind (wpAny_mono h₃
      (fun _ s₄ h₄ => wpAny_pure (wpAny_pure ⟨rfl, h₄⟩)) fun _ _ h' => h')) fun _ _ h' => h'))) fun _ _ h' => h')
theorem start_in {g : Comprehension} {elt target iter : Expr} {scope : Scope} {pos : Pos} {it acc : Value} {env : Env}
    (h0 : codeAny (model prog w) A (.compLoop (.ListComp elt [g, ⟨target, iter, [], 0⟩] scope pos) 1 it acc env) R s)
    (h : wpAny (model prog w) A (pyIter it) (fun it' s' => codeAny (model prog w) A (.compLoop (.ListComp elt [g, ⟨target, iter, [], 0⟩] scope pos) 1 it' acc env) R s')
      (notedBy (model prog w) A env fun x s' => R (.error x) s') s) :
    codeAny (model prog w) A (.compStart (.ListComp elt [g, ⟨target, iter, [], 0⟩] scope pos) 1 it acc env) R s := by
  refine codeAny_of_tree ?_
  show wpAny _ _ ((compStart (.ListComp elt [g, ⟨target, iter, [], 0⟩] scope pos) 1 it acc env).onRaise (fun x => do noteFrame x env; standAt theWindowsPlace)) _ _ s
  refine wpAny_notedAt ?_
  unfold compStart
  show wpAny _ _ (ask >>= _) _ _ s
  refine wpAny_bind (wpAny_askSetting (wpAny_ite ?_))
  split
  · first
      | exact wpAny_bind (wpAny_pure (wpAny_pure (And.intro rfl h0)))
      | exact wpAny_pure (And.intro rfl h0)
  · first
      | exact wpAny_bind (wpAny_rule (wpAny_bind (wpAny_standAt (wpAny_bind (wpAny_mono h (fun it' s' h' => wpAny_pure (And.intro rfl h')) fun _ _ x => x)))))
      | (refine wpAny_bind (wpAny_rule ?_); show wpAny _ _ (standAt iter.pos >>= _) _ _ s; exact wpAny_bind (wpAny_standAt (wpAny_bind (wpAny_mono h (fun it' s' h' => wpAny_pure (And.intro rfl h')) fun _ _ x => x))))
theorem loop_out {target iter elt target₂ iter₂ : Expr} {scope : Scope} {pos : Pos} {it acc : Value} {env : Env} (I : Nat → Shared → Prop)
    (turn : ∀ n s, I n s → wpAny (model prog w) A (pyNext it) (fun r s₁ => match r with
      | none => R (.ok .next) s₁
      | some v => wpAny (model prog w) A (letOwnedTupleGo target it v) (fun _ s₁' => wpAny (model prog w) A (assign target env v) (fun _ s₂ =>
          wpAny (model prog w) A (eval iter₂ env) (fun x s₃ => wpAny (model prog w) A (pyIter x) (fun it₂ s₄ =>
            codeAny (model prog w) (A.mark none) (.compStart (.ListComp elt [⟨target, iter, [], 0⟩, ⟨target₂, iter₂, [], 0⟩] scope pos) 1 it₂ acc env) (fun r s₅ => r = .ok .next ∧ ∃ m, m < n ∧ I m s₅) s₄)
            (notedBy (model prog w) A env fun e s' => R (.error e) s') s₃) (notedBy (model prog w) A env fun e s' => R (.error e) s') s₂)
          (notedBy (model prog w) A env fun e s' => R (.error e) s') s₁') (notedBy (model prog w) A env fun e s' => R (.error e) s') s₁) (notedBy (model prog w) A env fun e s' => R (.error e) s') s)
    (n : Nat) (h : I n s) (hs : ∀ x, foldedSetIterable iter₂ env x = pure x := by intro _; rfl) :
    codeAny (model prog w) A (.compLoop (.ListComp elt [⟨target, iter, [], 0⟩, ⟨target₂, iter₂, [], 0⟩] scope pos) 0 it acc env) R s := by
  refine codeAny_loop rfl I (fun n s hI => ?_) n h
  show wpAny _ _ ((compTurn (.ListComp elt [⟨target, iter, [], 0⟩, ⟨target₂, iter₂, [], 0⟩] scope pos) 0 it acc env).onRaise (fun x => do noteFrame x env; theTreesLotGoes x)) _ _ s
  refine wpAny_noted ?_
  rw [compTurn_out]
  refine wpAny_bind (wpAny_standAt (wpAny_bind (wpAny_mono (turn n s hI) (fun r s₁ h₁ => ?_) fun _ _ h' => h')))
  cases r with
  | none => exact wpAny_pure h₁
  | some v =>
    refine wpAny_bind (wpAny_mono h₁ (fun _ s₁' h₁' => ?_) fun _ _ h' => h')
    refine wpAny_bind (wpAny_mono h₁' (fun _ s₂ h₂ => ?_) fun _ _ h' => h')
    refine wpAny_bind (wpAny_mono h₂ (fun x s₃ h₃ => ?_) fun _ _ h' => h')
    refine wpAny_bind (wpAny_standAt (wpAny_bind (wpAny_of_eq (hs x) ?_)))
    refine wpAny_bind (wpAny_holding (wpAny_mono h₃ (fun it₂ s₄ h₄ => ?_) fun _ _ h' => h'))
    refine wpAny_bind (wpAny_runOwn (codeAny_mono h₄ fun r s₅ h₅ => ?_))
    obtain ⟨rfl, h₅⟩ := h₅
    exact wpAny_pure ⟨rfl, h₅⟩
theorem take_snoc {its : Array Value} {i : Nat} {v : Value} (h : its[i]? = some v) : its.toList.take (i + 1) = its.toList.take i ++ [v] := by
  rw [List.take_add_one]
  have : its.toList[i]? = some v := by simpa using h
  rw [this]; rfl
theorem inner_run {A' : Around} {g : Comprehension} {x₃ : Str} {px₃ q₃ pos : Pos} {iter₂ : Expr} {scope : Scope} {cl : List (Str × Addr)} {env : Env} {la C D : Addr} {its : Array Value} {m' : Str → Option Value} {ys : List Value} (hh : A'.handled = none)
    (hC : s.heap.Ns C m') (hD : s.heap.get? D = some (LCg.lst ys)) (hl : s.heap.IsList la its) (hDC : D ≠ C) (hlC : la ≠ C) (hlD : la ≠ D)
    (hkind : scope.kind = .function) (hx : scope.names.lookup x₃ = some .local) (hdb : (x₃ == ("__debug__" : Str)) = false) (hsz : ys.length + its.size ≤ sizeLine)
    (fin : ∀ h' tk m'', (∀ b o, b ≠ C → b ≠ D → s.heap.get? b = some o → h'.get? b = some o) → h'.get? D = some (LCg.lst (ys ++ its.toList)) → h'.Ns C m'' → R (.ok .next) { s with heap := h', toks := tk }) :
    wpAny (model prog w) A (pyIter (.ref la)) (fun it₂ s₄ => codeAny (model prog w) A' (.compStart (.ListComp (.Name x₃ q₃) [g, ⟨.Name x₃ px₃, iter₂, [], 0⟩] scope pos) 1 it₂ (.ref D) (compEnvC scope cl C env)) R s₄) E s := by
  refine wpAny_pyIter_list hl ?_
  have hlt : la < s.heap.objs.size := by obtain ⟨_, e, _⟩ := hl; exact Heap.lt_size e
  have up : ∀ b o, s.heap.get? b = some o → (s.heap.push { cls := .type "list_iterator", data := .fields #[.ref la, .int 0 0] }).get? b = some o := fun b o e => Heap.get?_push_of_some _ e
  have W := Walks.list (prog := prog) (w := w) (A := A') hh s.heap.objs.size la (Nat.ne_of_lt hlt) its
  have hIC : s.heap.objs.size ≠ C := fun e => Nat.lt_irrefl _ (e ▸ hC.lt : s.heap.objs.size < s.heap.objs.size)
  have hID : s.heap.objs.size ≠ D := fun e => Nat.lt_irrefl _ (e ▸ Heap.lt_size hD : s.heap.objs.size < s.heap.objs.size)
  have hst : (s.heap.push { cls := .type "list_iterator", data := .fields #[.ref la, .int 0 0] }).IsListIter s.heap.objs.size la 0 ∧ (s.heap.push { cls := .type "list_iterator", data := .fields #[.ref la, .int 0 0] }).IsList la its :=
    ⟨⟨_, Heap.get?_push_size _ rfl, rfl, rfl⟩, hl.push _⟩
  have loop : ∀ s₃ : Shared, s₃ = { s with heap := s.heap.push { cls := .type "list_iterator", data := .fields #[.ref la, .int 0 0] } } →
      codeAny (model prog w) A' (.compLoop (.ListComp (.Name x₃ q₃) [g, ⟨.Name x₃ px₃, iter₂, [], 0⟩] scope pos) 1 (.ref s.heap.objs.size) (.ref D) (compEnvC scope cl C env)) R s₃ := by
    rintro s₃ rfl
    refine loop_in (fun k s' => ∃ h' tk i m₁, s' = { s with heap := h', toks := tk } ∧ i ≤ its.size ∧ k = its.size + 1 - i ∧ (h'.IsListIter s.heap.objs.size la i ∧ h'.IsList la its) ∧ h'.Ns C m₁ ∧ h'.get? D = some (LCg.lst (ys ++ its.toList.take i)) ∧
      (∀ b o, b ≠ C → b ≠ D → s.heap.get? b = some o → h'.get? b = some o)) ?_ (its.size + 1)
      ⟨_, _, 0, m', rfl, Nat.zero_le _, rfl, hst, hC.at' fun o e => up _ _ e, by rw [List.take_zero, List.append_nil]; exact up _ _ hD, fun b o _ _ e => up b o e⟩
    rintro k s' ⟨h', tk, i, m₁, rfl, hi, rfl, hst', hn', hD', keep⟩
    by_cases hlt' : i < its.size
    · refine W.item i _ _ _ hlt' hst' fun v h₂ tk₂ hPv hst₂ hk₂ => ?_
      refine wpAny_assign_Name (wpAny_storeName_local (lookup_relabel_local hx) (hn'.at' fun o e => hk₂ _ o (by simpa using Ne.symm hIC) e) (fun h₃ hn₃ hs₃ => ?_) (by simp [compEnvC, relabel, hkind]))
      refine ldVarK (v := v) hn₃ (by simp) ?_ (by simp [compEnvC, relabel, hkind]) (lookup_relabel_local hx) hdb
      have zD : h₃.get? D = some (LCg.lst (ys ++ its.toList.take i)) := hs₃.extBut _ _ hDC (hk₂ _ _ (by simpa using Ne.symm hID) hD')
      have hst₃ : h₃.IsListIter s.heap.objs.size la (i + 1) ∧ h₃.IsList la its := W.frame _ _ _ hst₂ fun b hb o e => hs₃.extBut b o (fun q => by
        rcases List.mem_cons.mp hb with h | h
        · exact hIC (h ▸ q)
        · exact hlC ((List.mem_singleton.mp h) ▸ q)) e
      refine append_at (hsz := by
        show (ys ++ its.toList.take i).toArray.size ≤ sizeLine
        rw [List.size_toArray, List.length_append, List.length_take]
        have : its.toList.length = its.size := Array.length_toList
        omega) zD fun h₅ hs₅ hD₅ => ?_
      refine ⟨its.size + 1 - (i + 1), by omega, h₅, _, i + 1, _, rfl, hlt', rfl, W.frame _ _ _ hst₃ fun b hb o e => hs₅.extBut b o (fun q => by
        rcases List.mem_cons.mp hb with h | h
        · exact hID (h ▸ q)
        · exact hlD ((List.mem_singleton.mp h) ▸ q)) e, hn₃.sameBut hs₅ (Ne.symm hDC), ?_, fun b o h1 h2 e => hs₅.extBut b o h2 (hs₃.extBut b o h1 (hk₂ b o (fun hm => ?_) (keep b o h1 h2 e)))⟩
      · rw [take_snoc hPv, ← List.append_assoc]
        exact hD₅.trans (congrArg some (LCg.lst_snoc _ v))
      · rw [List.mem_singleton.mp hm] at e
        exact Nat.lt_irrefl _ (Heap.lt_size e)
    · obtain rfl : i = its.size := Nat.le_antisymm hi (Nat.not_lt.mp hlt')
      refine W.done _ _ _ hst' fun h₂ tk₂ hk₂ => ?_
      refine fin h₂ tk₂ m₁ (fun b o h1 h2 e => hk₂ b o (fun hm => ?_) (keep b o h1 h2 e)) ?_ (hn'.at' fun o e => hk₂ _ o (by simpa using Ne.symm hIC) e)
      · rw [List.mem_singleton.mp hm] at e
        exact Nat.lt_irrefl _ (Heap.lt_size e)
      · have := hk₂ _ _ (by simpa using Ne.symm hID) hD'
        rwa [show its.toList.take its.size = its.toList from List.take_of_length_le (by simp)] at this
  exact start_in (loop _ rfl) (W.self 0 _ _ _ hst (loop _ rfl))
abbrev Row2 := Addr × Value × Addr × Array Value
abbrev rowsV (rows : List Row2) : Array Value := (rows.map fun r => Value.ref r.1).toArray
abbrev flat2 (rows : List Row2) : List Value := rows.flatMap fun r => r.2.2.2.toList
theorem flat_snoc {rows : List Row2} {i : Nat} {r : Row2} (h : rows[i]? = some r) : flat2 (rows.take (i + 1)) = flat2 (rows.take i) ++ r.2.2.2.toList := by
  rw [List.take_add_one, h]; simp [flat2]
theorem flat_le {rows : List Row2} {i : Nat} {r : Row2} (h : rows[i]? = some r) : (flat2 (rows.take i)).length + r.2.2.2.size ≤ (flat2 rows).length := by
  have e : flat2 rows = flat2 (rows.take (i + 1)) ++ flat2 (rows.drop (i + 1)) := by rw [flat2, flat2, flat2, ← List.flatMap_append, List.take_append_drop]
  rw [e, flat_snoc h]
  simp
theorem block_two {x x₂ x₃ : Str} {px px₂ px₃ q₂ q₃ tp : Pos} {tk} {iter : Expr} {scope : Scope} {cl : List (Str × Addr)} {pos : Pos} {env : Env} {s₂ : Shared} {I ax : Addr} {rows : List Row2} {RR : Value → Addr → Result → Shared → Prop}
    (hh : A.handled = none) (hst : s₂.heap.IsListIter I ax 0 ∧ s₂.heap.IsList ax (rowsV rows)) (hIax : ax ≠ I) (hrows : ∀ r ∈ rows, IsTup s₂.heap r.1 #[r.2.1, .ref r.2.2.1] ∧ s₂.heap.IsList r.2.2.1 r.2.2.2) (hrI : ∀ r ∈ rows, r.1 ≠ I ∧ r.2.2.1 ≠ I)
    (hcell : ∀ y ∈ scope.names, y.2 ≠ .cell) (hkind : scope.kind = .function) (hx : scope.names.lookup x = some .local) (hx₂ : scope.names.lookup x₂ = some .local) (hx₃ : scope.names.lookup x₃ = some .local)
    (hd2 : (x₂ == ("__debug__" : Str)) = false) (hd3 : (x₃ == ("__debug__" : Str)) = false) (hsz : (flat2 rows).length ≤ sizeLine)
    (hRR : ∀ D C h tk m', (∀ b o, b ≠ I → s₂.heap.get? b = some o → h.get? b = some o) → h.get? D = some (LCg.lst (flat2 rows)) → h.Ns C m' → s₂.heap.get? C = none → s₂.heap.get? D = none → C ≠ D → s₂.heap.objs.size ≤ C → s₂.heap.objs.size ≤ D → RR (.ref D) C (.ok .next) { s₂ with heap := h, toks := tk }) :
    wpAny (model prog w) A (newList []) (fun acc s₃ => wpAny (model prog w) A (newFunctionEnv scope env.globals cl [] env.qual none .none (some env)) (fun cenv s₄ =>
      codeAny (model prog w) A (.compStart (.ListComp (.Name x₃ q₃) [⟨.Tuple [.Name x px, .Name x₂ px₂] tk tp, iter, [], 0⟩, ⟨.Name x₃ px₃, .Name x₂ q₂, [], 0⟩] scope pos) 0 (.ref I) acc { cenv with scope := relabel scope env }) (RR acc cenv.locals) s₄) E s₃) E s₂ := by
  refine wpAny_newObj_type (wpAny_newFunctionEnv hcell (by intro y hy; simp at hy) (fun h₁ hns₁ hsb₁ => ?_) hkind)
  dsimp only at hns₁ hsb₁ ⊢
  generalize hH2 : s₂.heap.push { cls := .type "list", dict := none, data := .seq ([] : List Value).toArray } = H2 at hns₁ hsb₁ ⊢
  have hC : H2.objs.size = s₂.heap.objs.size + 1 := by rw [← hH2, Heap.size_push]
  have hDC : s₂.heap.objs.size ≠ H2.objs.size := by rw [hC]; exact Nat.ne_of_lt (Nat.lt_succ_self _)
  have below : ∀ b, b < s₂.heap.objs.size → b ≠ H2.objs.size ∧ b ≠ s₂.heap.objs.size := fun b hb => ⟨by rw [hC]; exact Nat.ne_of_lt (Nat.lt_succ_of_lt hb), Nat.ne_of_lt hb⟩
  have hIlt : I < s₂.heap.objs.size := by obtain ⟨o, e, _⟩ := hst.1; exact Heap.lt_size e
  have haxlt : ax < s₂.heap.objs.size := by obtain ⟨o, e, _⟩ := hst.2; exact Heap.lt_size e
  have hCI := (below I hIlt).1
  have hDI := (below I hIlt).2
  have W := Walks.list (prog := prog) (w := w) (A := A) hh I ax hIax (rowsV rows)
  have old : ∀ b o, s₂.heap.get? b = some o → h₁.get? b = some o := fun b o e => hsb₁.extBut b o (below b (Heap.lt_size e)).1 (Heap.get?_push_of_some _ (hH2 ▸ Heap.get?_push_of_some _ e))
  have hacc : h₁.get? s₂.heap.objs.size = some (LCg.lst []) := hsb₁.extBut _ _ hDC (Heap.get?_push_of_some _ (hH2 ▸ Heap.get?_push_size _ rfl))
  have hst₁ : h₁.IsListIter I ax 0 ∧ h₁.IsList ax (rowsV rows) := W.frame _ _ _ hst fun b _ o e => old b o e
  have fresh : ∀ a, s₂.heap.objs.size ≤ a → s₂.heap.get? a = none := fun a ha => by
    cases e : s₂.heap.get? a with
    | none => rfl
    | some o' => exact absurd (Heap.lt_size e) (Nat.not_lt.mpr ha)
  have hlen : (rowsV rows).size = rows.length := by simp [rowsV]
  have loop : ∀ s₃ : Shared, s₃ = { s₂ with heap := h₁, toks := s₂.toks + ([] : List (Str × Value)).length } →
      codeAny (model prog w) A (.compLoop (.ListComp (.Name x₃ q₃) [⟨.Tuple [.Name x px, .Name x₂ px₂] tk tp, iter, [], 0⟩, ⟨.Name x₃ px₃, .Name x₂ q₂, [], 0⟩] scope pos) 0 (.ref I) (.ref s₂.heap.objs.size) (compEnvC scope cl H2.objs.size env))
        (RR (.ref s₂.heap.objs.size) H2.objs.size) s₃ := by
    rintro s₃ rfl
    refine loop_out (fun k s' => ∃ h' tk i m', s' = { s₂ with heap := h', toks := tk } ∧ i ≤ rows.length ∧ k = rows.length + 1 - i ∧ (h'.IsListIter I ax i ∧ h'.IsList ax (rowsV rows)) ∧ h'.Ns H2.objs.size m' ∧ h'.get? s₂.heap.objs.size = some (LCg.lst (flat2 (rows.take i))) ∧
      (∀ b o, b ≠ I → s₂.heap.get? b = some o → h'.get? b = some o)) ?_ (rows.length + 1)
      ⟨h₁, _, 0, _, rfl, Nat.zero_le _, rfl, hst₁, hns₁, hacc, fun b o _ e => old b o e⟩
    rintro k s' ⟨h', tk, i, m', rfl, hi, rfl, hst', hn', hD', keep⟩
    by_cases hlt : i < rows.length
    · refine W.item i _ _ _ (by omega) hst' fun v h₂ tk₂ hPv hst₂ hk₂ => ?_
      obtain ⟨r, hr⟩ : ∃ r, rows[i]? = some r := ⟨rows[i], by simp⟩
      have hv : v = .ref r.1 := by
        have : (rowsV rows)[i]? = some (.ref r.1) := by simp [rowsV, hr]
        exact Option.some.inj (hPv.symm.trans this)
      subst hv
      have hrm := List.mem_of_getElem? hr
      obtain ⟨⟨ot, hot, hct, nt, hdt⟩, ol, hol, hcl', nl, hdl⟩ := hrows r hrm
      obtain ⟨hrI1, hrI2⟩ := hrI r hrm
      have k2 : ∀ b o, b ≠ I → s₂.heap.get? b = some o → h₂.get? b = some o := fun b o hb e => hk₂ b o (by simpa using hb) (keep b o hb e)
      have ht : IsTup h₂ r.1 #[r.2.1, .ref r.2.2.1] := ⟨ot, k2 _ _ hrI1 hot, hct, nt, hdt⟩
      refine wpAny_letOwnedTupleGo_listiter hst₂.1 ?_
      refine assign_Tuple_tuple hh ht rfl rfl fun h₅ he => ?_
      have he' : ∀ b o, h₂.get? b = some o → h₅.get? b = some o := fun b o e => he b o (Nat.ne_of_lt (Heap.lt_size e)) e
      refine assignInOrder_cons (wpAny_assign_Name (wpAny_storeName_local (lookup_relabel_local hx) ((hn'.at' fun o e => hk₂ _ o (by simpa using Ne.symm hCI) e).at' fun o e => he' _ o e) (fun h₆ hn₆ hs₆ => ?_) (by simp [compEnvC, relabel, hkind])))
      refine assignInOrder_cons (wpAny_assign_Name (wpAny_storeName_local (lookup_relabel_local hx₂) hn₆ (fun h₃ hn₃ hs₃ => ?_) (by simp [compEnvC, relabel, hkind])))
      refine assignInOrder_nil ?_
      have old3 : ∀ b o, b ≠ H2.objs.size → h₂.get? b = some o → h₃.get? b = some o := fun b o hb e => hs₃.extBut b o hb (hs₆.extBut b o hb (he' b o e))
      refine ldVarK (v := .ref r.2.2.1) hn₃ (by simp) ?_ (by simp [compEnvC, relabel, hkind]) (lookup_relabel_local hx₂) hd2
      have hllt : r.2.2.1 < s₂.heap.objs.size := Heap.lt_size hol
      have zD : h₃.get? s₂.heap.objs.size = some (LCg.lst (flat2 (rows.take i))) := old3 _ _ hDC (hk₂ _ _ (by simpa using Ne.symm hDI) hD')
      refine inner_run (by simp [Around.mark, hh]) hn₃ zD ⟨ol, old3 _ _ (below _ hllt).1 (k2 _ _ hrI2 hol), hcl', nl, hdl⟩ hDC (below _ hllt).1 (below _ hllt).2 hkind hx₃ hd3 (Nat.le_trans (flat_le hr) hsz) fun h₇ tk₇ m₇ k7 hD7 hn7 => ?_
      refine ⟨rfl, rows.length + 1 - (i + 1), by omega, h₇, tk₇, i + 1, m₇, rfl, hlt, rfl, W.frame _ _ _ hst₂ fun b hb o e => ?_, hn7, by rw [flat_snoc hr]; exact hD7, fun b o hb e => k7 b o (below b (Heap.lt_size e)).1 (below b (Heap.lt_size e)).2 (old3 _ _ (below b (Heap.lt_size e)).1 (k2 b o hb e))⟩
      have hb' : b < s₂.heap.objs.size := by
        rcases List.mem_cons.mp hb with h | h
        · rw [h]; exact hIlt
        · rw [List.mem_singleton.mp h]; exact haxlt
      exact k7 b o (below b hb').1 (below b hb').2 (old3 _ _ (below b hb').1 e)
    · obtain rfl : i = rows.length := Nat.le_antisymm hi (Nat.not_lt.mp hlt)
      refine W.done _ _ _ (by rw [hlen]; exact hst') fun h₂ tk₂ hk₂ => ?_
      refine hRR _ _ h₂ tk₂ m' (fun b o hb e => hk₂ b o (by simpa using hb) (keep b o hb e)) ?_ (hn'.at' fun o e => hk₂ _ o (by simpa using Ne.symm hCI) e) (fresh _ (by rw [hC]; exact Nat.le_succ _)) (fresh _ (Nat.le_refl _)) (Ne.symm hDC) (by rw [hC]; exact Nat.le_succ _) (Nat.le_refl _)
      have := hk₂ _ _ (by simpa using Ne.symm hDI) hD'
      rwa [List.take_of_length_le (Nat.le_refl _)] at this
  exact codeAny_compStart_list (loop _ rfl) (W.self 0 _ _ _ hst₁ (loop _ rfl))
inductive TwoSrc (A : Around) (h₀ : Heap) (L : Addr) (m : Str → Option Value) (y : Str) (Q : Flow → Shared → Prop) (xv : Value) (s₁ : Shared) : Prop
  | mk (ax : _) (rows : _) (news : _) : (xv = .ref ax) → (A.handled = none) → (Fr h₀ L s₁.heap m) → (News h₀ L s₁.heap news) → (s₁.heap.IsList ax (rowsV rows)) → ((∀ r ∈ rows, IsTup s₁.heap r.1 #[r.2.1, .ref r.2.2.1] ∧ s₁.heap.IsList r.2.2.1 r.2.2.2)) → ((flat2 rows).length ≤ sizeLine) → (∀ D h' tk', Fr h₀ L h' (fun z => if z = y then some (.ref D) else m z) → News h₀ L h' ((D, LCg.lst (flat2 rows)) :: news) → (∀ p ∈ news, p.1 < D) → Q .next { s₁ with heap := h', toks := tk' }) → TwoSrc A h₀ L m y Q xv s₁
theorem assign_two {h₀ : Heap} {L : Addr} {m : Str → Option Value} {env : Env} {x x₂ x₃ y : Str} {px px₂ px₃ q₂ q₃ tp py : Pos} {tk} {iter : Expr} {scope : Scope} {cl : List (Str × Addr)} {pos spos : Pos} {Q : Flow → Shared → Prop} (F₀ : Fr h₀ L s.heap m) (hLe : env.locals = L)
    (hsw : swapsWith (.ListComp (.Name x₃ q₃) [⟨.Tuple [.Name x px, .Name x₂ px₂] tk tp, iter, [], 0⟩, ⟨.Name x₃ px₃, .Name x₂ q₂, [], 0⟩] scope pos) (some (.Name y py)) spos.line env = pure true)
    (hclos : closureFor scope env = pure cl) (hcell : ∀ z ∈ scope.names, z.2 ≠ .cell) (hkind : scope.kind = .function)
    (hnames : ∀ z ∈ scope.names, z.2 = .local → scope.names.lookup z.1 = some .local) (hx : scope.names.lookup x = some .local) (hx₂ : scope.names.lookup x₂ = some .local) (hx₃ : scope.names.lookup x₃ = some .local)
    (hd2 : (x₂ == ("__debug__" : Str)) = false) (hd3 : (x₃ == ("__debug__" : Str)) = false)
    (hy : env.kindOf y = some .local) (hp : (env.scope.kind == .class || (env.scope.kind == .module && env.locals != env.globals)) = false)
    (h : wpAny (model prog w) A (eval iter env) (TwoSrc A h₀ L m y Q) E s)
    (hs : ∀ x, foldedSetIterable iter env x = pure x := by intro _; rfl) :
    wpAny (model prog w) A (exec (.Assign [.Name y py] (.ListComp (.Name x₃ q₃) [⟨.Tuple [.Name x px, .Name x₂ px₂] tk tp, iter, [], 0⟩, ⟨.Name x₃ px₃, .Name x₂ q₂, [], 0⟩] scope pos) spos) env) Q E s := by
  subst hLe
  rw [exec_Assign_Name_used _ _ _ _ hsw]
  refine wpAny_bind (wpAny_standAt (wpAny_bind ?_))
  show wpAny _ A (do let _ ← comprehension (.ListComp (.Name x₃ q₃) [⟨.Tuple [.Name x px, .Name x₂ px₂] tk tp, iter, [], 0⟩, ⟨.Name x₃ px₃, .Name x₂ q₂, [], 0⟩] scope pos) scope env _ (newList []) false (eval iter env) (some (assign (.Name y py) env))) _ _ s
  refine wpAny_bind (wpAny_mono (wpAny_comprehension_free (use := some (assign (.Name y py) env)) (Q := fun _ s' => Q .next s') rfl hs hclos hkind hnames
    (wpAny_mono h (fun xv s₁ h₁ => ?_) fun _ _ e => e)) (fun _ s' hq => wpAny_pure (wpAny_pure hq)) fun _ _ e => e)
  obtain ⟨ax, rows, news, rfl, hh, F, N, hl, hrows, hsz, fin⟩ := h₁
  have hlt : ax < s₁.heap.objs.size := by obtain ⟨_, e, _⟩ := hl; exact Heap.lt_size e
  refine wpAny_pyIter_list hl ?_
  have up : ∀ b o, s₁.heap.get? b = some o → (s₁.heap.push { cls := .type "list_iterator", data := .fields #[.ref ax, .int 0 0] }).get? b = some o := fun b o e => Heap.get?_push_of_some _ e
  have hIL : env.locals ≠ s₁.heap.objs.size := Nat.ne_of_lt F.ns.lt
  have fresh₀ : ∀ a, s₁.heap.objs.size ≤ a → h₀.get? a = none := fun a ha => by
    cases e : h₀.get? a with
    | none => rfl
    | some o' => exact absurd (Heap.lt_size (F.keep a o' e)) (Nat.not_lt.mpr ha)
  refine block_two (rows := rows) hh ⟨⟨_, Heap.get?_push_size _ rfl, rfl, rfl⟩, hl.push _⟩ (Nat.ne_of_lt hlt) (fun r hr => ?_) (fun r hr => ?_) hcell hkind hx hx₂ hx₃ hd2 hd3 hsz ?_
  · obtain ⟨⟨ot, hot, r1⟩, ol, hol, r2⟩ := hrows r hr
    exact ⟨⟨ot, up _ _ hot, r1⟩, ol, up _ _ hol, r2⟩
  · obtain ⟨⟨ot, hot, r1⟩, ol, hol, r2⟩ := hrows r hr
    exact ⟨Nat.ne_of_lt (Heap.lt_size hot), Nat.ne_of_lt (Heap.lt_size hol)⟩
  · intro D C h' tk' m' keep hD hn _ _ hCD hCs hDs
    rw [Heap.size_push] at hCs hDs
    have hCs' : s₁.heap.objs.size ≤ C := Nat.le_of_succ_le hCs
    have hDs' : s₁.heap.objs.size ≤ D := Nat.le_of_succ_le hDs
    have hLC : C ≠ env.locals := fun e => Nat.lt_irrefl _ (Nat.lt_of_lt_of_le F.ns.lt (e ▸ hCs'))
    have hLD : D ≠ env.locals := fun e => Nat.lt_irrefl _ (Nat.lt_of_lt_of_le F.ns.lt (e ▸ hDs'))
    have keep' : ∀ b o, s₁.heap.get? b = some o → h'.get? b = some o := fun b o e => keep b o (Nat.ne_of_lt (Heap.lt_size e)) (up b o e)
    have F' : Fr h₀ env.locals h' m := F.keeps keep'
    have N' : News h₀ env.locals h' news := N.grown keep'
    show wpAny _ A (assign (.Name y py) env (.ref D)) _ _ _
    refine wpAny_assign_Name (wpAny_storeName_local hy F'.ns (fun h₂ hn₂ hs₂ => ?_) hp)
    have hL₀ : h₀.get? env.locals = none := Heap.get?_none_of_le F'.above
    have F₂ : Fr h₀ env.locals h₂ (fun z => if z = y then some (.ref D) else m z) := ⟨hn₂, fun b o e => hs₂.extBut b o (fun q => by rw [q, hL₀] at e; cases e) (F'.keep b o e), F'.above⟩
    refine ⟨m', hn.sameBut hs₂ hLC, fun h'' hs'' => fin D h'' _ (F₂.change hs'' hLC (fresh₀ _ hCs')) (fun p hp => ?_) (fun p hp => Nat.lt_of_lt_of_le (Heap.lt_size (N p hp).1) hDs')⟩
    rcases List.mem_cons.mp hp with rfl | hp
    · exact ⟨hs''.extBut _ _ (Ne.symm hCD) (hs₂.extBut _ _ hLD hD), hLD, fresh₀ _ hDs'⟩
    · have hpC : p.1 ≠ C := fun e => Nat.lt_irrefl _ (Nat.lt_of_lt_of_le (Heap.lt_size (N p hp).1) (e ▸ hCs'))
      exact ⟨hs''.extBut _ _ hpC (hs₂.extBut _ _ (N' p hp).2.1 (N' p hp).1), (N' p hp).2⟩
end
end Mine93
-- Zad
namespace Mine93

theorem kwZad0 : True := by
  k_with_none
  (k_with "room" => first | exact Nat.le_of_ble_eq_true rfl | exact room2 (by assumption) (Nat.le_of_ble_eq_true rfl) | exact room3 (by assumption) (Nat.le_of_ble_eq_true rfl) | exact room1 (by assumption))
  (k_with "units" => first | exact Nat.le_of_ble_eq_true rfl | exact room2 (by assumption) (Nat.le_of_ble_eq_true rfl) | exact room3 (by assumption) (Nat.le_of_ble_eq_true rfl) | exact room1 (by assumption))
  (k_with "splits" => first | exact Split.app | (refine' Split.cons ?kqx; (case kqx => walk_at "splits")) | exact Split.nil)
  (k_with "sub" => ((repeat (first | exact sub_refl | exact sub_appL | exact sub_appR | (refine sub_cons ?kqmem ?_; (case kqmem => k_mem)) | refine sub_tail ?_)); done))
  (k_with "notin" => first | assumption | exact Apart.at (by assumption) (by k_mem) | exact OffM.notI (by assumption) (by walk_at "sub") | exact OffM.notC (by assumption) (by walk_at "sub") | exact OffM.notD (by assumption) (by walk_at "sub") | exact Hi.not (by assumption) (by walk_at "sub") | exact OffD.not (by assumption) (by walk_at "sub") | exact not_of_lt (by walk_at "lts") (by walk_at "sub"))
  (k_with "k_ne" => ((try dsimp only); first | assumption | exact Ne.symm (by assumption) | (refine' OffD.at ?kqh ?kqm; (case kqh => assumption); (case kqm => walk_at "ina")) | (refine' OffD.at' ?kqh ?kqm; (case kqh => assumption); (case kqm => walk_at "ina")) | exact ne_lt' (by assumption) | exact ne_gt' (by assumption) | fail))
  (k_with "k_all" => first | exact List.forall_mem_nil _ | (refine' List.forall_mem_cons.mpr ⟨?kqa, ?kqb⟩; (case kqa => k_ne); (case kqb => k_all)) | assumption | exact Apart.ne (by assumption) (by k_mem) | (refine all_app ?_ ?_ <;> k_all) | exact Hi.ne (by assumption) (by walk_at "sub") | exact ne_of_lt' (by walk_at "lts") (by walk_at "sub") | exact OffD.ne' (by assumption) (by walk_at "sub"))
  (k_with "pull" => first | exact Pull.here | (refine' Pull.next ?kqp; (case kqp => walk_at "pull")))
  (k_with "k_mem" => first | ((with_reducible refine mem_appL ?_); ktr_member) | ((with_reducible refine mem_appR ?_); ktr_member) | ((with_reducible refine mem_raw ?_); ktr_member))
  (k_with "split" => first | exact Split.app | (refine' Split.cons ?kqx; (case kqx => walk_at "split")) | exact Split.nil)
  (k_with "apart" => first | assumption | exact Apart.nil | (refine' Apart.cons ?kqa ?kqb; (case kqa => walk_at "notin"); (case kqb => walk_at "apart")) | exact Apart.sub (by assumption) (by walk_at "sub"))
  (k_with "kind" => first | exact rfl | assumption)
  (k_with "call ref" => ((with_reducible show wpAny _ _ (call (Value.ref 63) _) _ _ _); k_here; k_dflt (refine' c_both ?kqB ?kqF ?kqX ?kqN ?kqT ?kqhk ?kqSp ?kqAp ?kqNI ?kqhx ?kqhy ?kqhd ?kqhu ?_; (case kqB => k_asm); (case kqF => k_asm); (case kqX => k_asm); (case kqN => k_asm); (case kqT => k_asm); (case kqhk => walk_at "kind"); (case kqSp => walk_at "split"); (case kqNI => assumption); (case kqAp => walk_at "apart"); (case kqhx => k_mem); (case kqhy => k_mem); (case kqhd => ktr_room); (case kqhu => ktr_units)); intro r' t' nt' h' tk' F' N' Ap' NI'; (have mG' := Net.mG NI'); (have mD' := Net.mdG NI'); (try simp only [List.cons_append, List.nil_append] at N'); (try k_sweep)))
  (k_with "call ref" => ((with_reducible show wpAny _ _ (call (Value.ref 70) _) _ _ _); k_here; k_dflt (refine' c_either ?kqB ?kqF ?kqX ?kqN ?kqT ?kqhk ?kqSp ?kqAp ?kqNI ?kqhx ?kqhy ?kqhd ?kqhu ?_; (case kqB => k_asm); (case kqF => k_asm); (case kqX => k_asm); (case kqN => k_asm); (case kqT => k_asm); (case kqhk => walk_at "kind"); (case kqSp => walk_at "split"); (case kqNI => assumption); (case kqAp => walk_at "apart"); (case kqhx => k_mem); (case kqhy => k_mem); (case kqhd => ktr_room); (case kqhu => ktr_units)); intro r' t' nt' h' tk' F' N' Ap' NI'; (have mG' := Net.mG NI'); (have mD' := Net.mdG NI'); (try simp only [List.cons_append, List.nil_append] at N'); (try k_sweep)))
  (k_with "call ref" => ((with_reducible show wpAny _ _ (call (Value.ref 77) _) _ _ _); k_here; k_dflt (refine' c_differ ?kqB ?kqF ?kqX ?kqN ?kqT ?kqhk ?kqSp ?kqAp ?kqNI ?kqhx ?kqhy ?kqhd ?kqhu ?_; (case kqB => k_asm); (case kqF => k_asm); (case kqX => k_asm); (case kqN => k_asm); (case kqT => k_asm); (case kqhk => walk_at "kind"); (case kqSp => walk_at "split"); (case kqNI => assumption); (case kqAp => walk_at "apart"); (case kqhx => k_mem); (case kqhy => k_mem); (case kqhd => ktr_room); (case kqhu => ktr_units)); intro r' t' nt' h' tk' F' N' Ap' NI'; (have mG' := Net.mG NI'); (have mD' := Net.mdG NI'); (try simp only [List.cons_append, List.nil_append] at N'); (try k_sweep)))
  (k_with "pyIter ref" => ((with_reducible show wpAny _ _ (pyIter (Value.ref _)) (fun it s₂ => LoopAtV _ _ _ _ _ _ _ _ _ it s₂) _ _); refine hold ?_))
  (k_with "UnrEnd" => (refine hold ?_))
  (k_with "eval Name" => ((rename NmMark => mk9); k_here; k_dflt (refine' nameX_L ?kqF ?kqv ?_ ?kqa ?kqb; (case kqa => rfl); (case kqb => rfl); (case kqF => k_asm); (case kqv => walk_at "mlook"); k_whole)))
  (k_with "mlook" => first | (with_reducible assumption) | (refine' look_neg ?kqa ?kqb; (case kqb => decide); (case kqa => walk_at "mlook")) | exact rfl)
  (k_with "subscriptTail Name Name ref int" => ((with_reducible show wpAny _ _ (subscriptTail _ _ (Value.ref _) (Value.int _ _)) _ _ _); k_here; k_dflt (refine' item_nb ?kqN ?kqm ?kqk ?kqh9 ?kqx ?_; (case kqN => k_asm); (case kqm => k_mem); (case kqk => exact rfl); (case kqh9 => assumption); (case kqx => assumption))))
  (k_with "gin" => first | assumption | exact gin_here | (refine' gin_app ?kqp; (case kqp => walk_at "gin")) | (refine' gin_cons ?kqp; (case kqp => walk_at "gin")) | exact gin_nil | (refine' gin_two ?kqa ?kqb; (case kqa => k_mem); (case kqb => walk_at "gin")))
  (k_with "len" => first | assumption | exact rfl)
  trivial

inductive AInv (prog : Program) (w : World) (A : NA) (R n : Nat) (lu lv : Addr) (us vs : List NB) (f0 : RF) (I D : Addr) (bs : List (Addr × Obj)) (gl : List (Int × RF)) (j : Nat) (m : Str → Option Value) (news : List (Addr × Obj)) : Prop
  | mk (z : Int) (tz : Tok) (ff : RF) (rs : List NB) (c : Nat) (nt : List (Addr × Obj)) (gs : List (Int × RF)) : (news = (D, listOf (vals rs) c) :: (bs ++ nt)) → (Apart ((D, listOf (vals rs) c) :: bs) nt) → ((∀ q ∈ nt, I ≠ q.1)) → (Net prog w A nt gs (R + 5 * (n - j))) → ((z, ff) ∈ gs) → ((∀ p ∈ nets rs, p ∈ gs)) → ((∀ p ∈ gl, p ∈ gs)) → (rs.length = j) → (m (Str.ofString "g") = some (.ref A.G)) → (m (Str.ofString "u") = some (.ref lu)) → (m (Str.ofString "v") = some (.ref lv)) → (m (Str.ofString "total") = some (.ref D)) → (m (Str.ofString "carry") = some (.int z tz)) → (∀ i, num rs i + 2 ^ j * (ff i).toNat = num (us.take j) i + num (vs.take j) i + (f0 i).toNat) → AInv prog w A R n lu lv us vs f0 I D bs gl j m news
theorem kwZad1 : True := by
  (k_with "call builtin:list.append cons nil" => ((with_reducible show wpAny _ _ (call (Value.builtin _) [Value.ref _, Value.int _ _]) _ _ _); k_here; k_dflt (refine' app_nb ?kqNI ?kqhm ?kqF ?kqN ?kqU ?kqhl ?_; (case kqNI => assumption); (case kqhm => k_mem); (case kqF => k_asm); (case kqN => k_asm); (case kqU => k_upd); (case kqhl => omega)); intro h' F' N'; (try dsimp only [List.nil_append, List.cons_append] at N'); (try k_sweep)))
  (k_with "call builtin:len cons nil" => ((with_reducible show wpAny _ _ (call (Value.builtin "len") [Value.ref _]) _ _ _); k_here; k_dflt (refine' len_nb ?kqN ?kqm ?kqhn ?kqh8 ?_; (case kqN => k_asm); (case kqm => k_mem); (case kqhn => exact rfl); (case kqh8 => exact sm4 (by assumption)))))
  trivial

section
variable {prog : Program} {w : World} {mg mb : Str → Option Value} {mean : ExcName → Option Value} {loose : List Str} {dp un : Nat} {gd : Option (List Code)} {cn : Str} {cs : Scope} {L a : Addr} {ccd : Value} {cl : List (Str × Addr)} {outer : List Env} {A₀ : Around}
  {base h₀ : Heap} {m : Str → Option Value} {s : Shared} {Q E : Value → Shared → Prop} {A : NA} {news own nt : List (Addr × Obj)} {gs : List (Int × RF)} {R : Nat}

theorem c_addN {lu lv : Addr} {nu nv n : Nat} {us vs : List NB} {z : Int} {tz : Tok} {fc : RF}
    (B : Below A₀ base outer h₀) (F : Fr h₀ L s.heap m) (X : (hd93.heap_1 w.params).In h₀) (N : News h₀ L s.heap news) (T : Top hd93.view_1 loose mean mg mb h₀) (hk : cs.kind = .function)
    (Sp : Split news own nt) (Ap : Apart own nt) (NI : Net prog w A nt gs (R + 5 * n)) (hl0 : (lu, listOf (vals us) nu) ∈ own) (hl1 : (lv, listOf (vals vs) nv) ∈ own) (hz : (z, fc) ∈ gs) (hs : ∀ p ∈ nets us, p ∈ gs) (hv : ∀ p ∈ nets vs, p ∈ gs) (hn : us.length = n) (hm : vs.length = n) (h4 : n ≤ 4) (hd : dp + 60 < recursionLimit) (hu : un + 480 < cLine)
    (ret : ∀ D lr nr (rs : List NB) rc uc (Fc : RF) nt' h' tk', Fr h₀ L h' m → News h₀ L h' ((D, tupOf [.ref lr, .int rc uc]) :: (lr, listOf (vals rs) nr) :: (own ++ nt')) → Apart ((D, tupOf [.ref lr, .int rc uc]) :: (lr, listOf (vals rs) nr) :: own) nt' → Net prog w A nt' ((rc, Fc) :: (nets rs ++ gs)) R → rs.length = n → (∀ i, num rs i + 2 ^ n * (Fc i).toNat = num us i + num vs i + (fc i).toNat) → LCg.Off1 D own → LCg.Off1 lr own → Q (.ref D) { s with heap := h', toks := tk' }) :
    wpAny (model prog w) (ktrTop dp un gd cn cs L a ccd cl outer) (call (.ref 134) [.ref A.G, .ref lu, .ref lv, .int z tz]) Q E s := by
  obtain rfl := Sp.eq
  clear Sp
  subst hn
  have hn : us.length = us.length := rfl
  have le4 : Le4 us.length := h4
  clear h4
  have mG := NI.mG
  have mD := NI.mdG
  refine wpAny_call ?_
  k_dflt (ktr_enter)
  rename Fr _ _ _ (fun y => List.lookup y _) => FN
  replace FN : Fr _ _ _ (fun y9 => List.lookup y9 [(Str.ofString "carry", .int z tz), (Str.ofString "v", .ref lv), (Str.ofString "u", .ref lu), (Str.ofString "g", .ref A.G)]) := FN
  generalize (Shared.toks s + List.length _) = tk0
  have mk : NmMark := trivial
  k_steps
  rename News _ _ _ _ => N1
  rename Fr _ _ _ _ => F1
  rename IsRange _ _ _ _ _ _ _ _ => hr
  unfold Hold
  have ru := rng_up (n := us.length) le4
  rename ∀ p ∈ own ++ nt, Prod.fst p < _ => l1
  have oD : ∀ p ∈ own ++ nt, p.1 ≠ _ := fun p hp => Nat.ne_of_lt (l1 p hp)
  with_unfolding_all refine iter_rangeUnr (n := us.length) (by rfl) hr ru.1 ru.2 F1 N1 ?_
  intro I lI
  refine' rr_inv (AInv prog w A R us.length lu lv us vs fc I ?D own gs) us.length ?step ?fin us.length 0 _ _ (Nat.zero_add _) ?init
  case init =>
    refine' ⟨z, tz, fc, [], 0, nt, gs, rfl, ?ap, ?lt, NI.le (by omega), hz, (fun p h => nomatch h), (fun p h => h), rfl, rfl, rfl, rfl, rfl, rfl, fun i => ?sp⟩
    case ap => exact ap_new Ap oD
    case lt => exact fun q hq => Nat.ne_of_gt (lI q (.tail _ (List.mem_append_right _ hq)))
    case sp => simp [num, nm]
  case step =>
    clear N1 F1 hr
    rintro j m1 news1 hj ⟨y, ty, ff, rs, c, nt1, gs1, rfl, Ap3, hI, NI3, hf, hrs, hgl, hlen, k1, k2, k3, k4, k5, hff⟩ t hh tk F3 N3
    rw [Int.zero_add] at F3
    obtain ⟨p, hp⟩ : ∃ p, us.length = j + 1 + p := ⟨us.length - (j + 1), by omega⟩
    have hj9 : j < 9 := Nat.lt_of_lt_of_le hj (Nat.le_trans le4 (by decide))
    obtain ⟨b, hb⟩ := getL (us := us) rfl hj
    obtain ⟨d, hd9⟩ := getL (us := vs) hm hj
    have hbm := hgl _ (mem_nets hs hb)
    have hdm := hgl _ (mem_nets hv hd9)
    have NI4 : Net prog w A nt1 gs1 ((R + 5 * (us.length - (j + 1))) + 5) := NI3.le (by omega)
    clear NI3
    have mG := NI4.mG
    have mD := NI4.mdG
    (try simp only [List.cons_append] at N3)
    have hID := lI _ (.head _)
    dsimp only at hID
    k_steps
    unfold Hold
    rename News _ _ _ _ => N5
    rename Net _ _ _ _ _ _ => NI5
    rename Apart _ _ => Ap5
    rename Fr _ _ _ _ => F5
    refine' UnrEnd.intro F5 N5 _ (fun _ h => h) (off1' lI (Ap5 _ (.head _))) ⟨_, _, _, _, _, _, _, rfl, ?Ap, Ap5 _ (.head _), NI5.le (by omega), .head _, ?rs, ?gl, ?ln, ?m1, ?m2, ?m3, ?m4, rfl, ?sp⟩
    case Ap => exact ap_obj Ap5.tail
    case rs => (refine' nets_app ?ra ?rm; (case ra => walk_at "gin"); (case rm => k_mem))
    case gl => walk_at "gin"
    case ln => simp [hlen]
    case m1 => walk_at "mlook"
    case m2 => walk_at "mlook"
    case m3 => walk_at "mlook"
    case m4 => walk_at "mlook"
    case sp =>
      intro i
      rw [num_app, hlen, num_take hb, num_take hd9, Nat.pow_succ]
      exact add_step (hff i) (full_add (b.f i) (d.f i) (ff i))
  case fin =>
    rintro m1 news1 ⟨y, ty, ff, rs, c, nt1, gs1, rfl, Ap3, hI, NI3, hf, hrs, hgl, hlen, k1, k2, k3, k4, k5, hff⟩ hh tk F3 N3
    dsimp only
    (try simp only [List.cons_append] at N3)
    k_steps
    rename News _ _ _ _ => N5
    rename _ < _ ∧ AllLt _ _ => l5
    have l5 := all_of (o := listOf (vals rs) c) l5
    refine' ret _ _ _ rs _ _ ff nt1 _ _ ?zF N5 ?zA (net_fin NI3 (by omega) ?zG) hlen ?zS ?zO ?zP
    case zF => k_asm
    case zA => exact ap_lt Ap3 l5
    case zG => exact gsub_cons hf (gall hrs hgl)
    case zS =>
      intro i
      have h := hff i
      rw [List.take_of_length_le (Nat.le_refl _), List.take_of_length_le (Nat.le_of_eq hm)] at h
      exact h
    case zO => exact off1_of fun p hp => Nat.ne_of_lt (l5 p (.tail _ (List.mem_append_left _ hp)))
    case zP => exact off1_of fun p hp => oD p (List.mem_append_left _ hp)
end
end Mine93
-- Znt
namespace Mine93

theorem kwZnt0 : True := by
  k_with_none
  (k_with "room" => first | exact Nat.le_of_ble_eq_true rfl | exact room2 (by assumption) (Nat.le_of_ble_eq_true rfl) | exact room3 (by assumption) (Nat.le_of_ble_eq_true rfl) | exact room1 (by assumption))
  (k_with "units" => first | exact Nat.le_of_ble_eq_true rfl | exact room2 (by assumption) (Nat.le_of_ble_eq_true rfl) | exact room3 (by assumption) (Nat.le_of_ble_eq_true rfl) | exact room1 (by assumption))
  (k_with "splits" => first | exact Split.app | (refine' Split.cons ?kqx; (case kqx => walk_at "splits")) | exact Split.nil)
  (k_with "sub" => ((repeat (first | exact sub_refl | exact sub_appL | exact sub_appR | (refine sub_cons ?kqmem ?_; (case kqmem => k_mem)) | refine sub_tail ?_)); done))
  (k_with "notin" => first | assumption | exact Apart.at (by assumption) (by k_mem) | exact OffM.notI (by assumption) (by walk_at "sub") | exact OffM.notC (by assumption) (by walk_at "sub") | exact OffM.notD (by assumption) (by walk_at "sub") | exact Hi.not (by assumption) (by walk_at "sub") | exact OffD.not (by assumption) (by walk_at "sub") | exact not_of_lt (by walk_at "lts") (by walk_at "sub"))
  (k_with "k_ne" => ((try dsimp only); first | assumption | exact Ne.symm (by assumption) | (refine' OffD.at ?kqh ?kqm; (case kqh => assumption); (case kqm => walk_at "ina")) | (refine' OffD.at' ?kqh ?kqm; (case kqh => assumption); (case kqm => walk_at "ina")) | exact ne_lt' (by assumption) | exact ne_gt' (by assumption) | fail))
  (k_with "k_all" => first | exact List.forall_mem_nil _ | (refine' List.forall_mem_cons.mpr ⟨?kqa, ?kqb⟩; (case kqa => k_ne); (case kqb => k_all)) | assumption | exact Apart.ne (by assumption) (by k_mem) | (refine all_app ?_ ?_ <;> k_all) | exact Hi.ne (by assumption) (by walk_at "sub") | exact ne_of_lt' (by walk_at "lts") (by walk_at "sub") | exact OffD.ne' (by assumption) (by walk_at "sub"))
  (k_with "eval ListComp" => (k_here; k_dflt (refine LCg.ListComp_U (F₀ := by k_asm) (by with_unfolding_all rfl) (by decide) (by rfl) (by decide) (by rfl) ?_); k_dflt lcg_toSrc))
  (k_with "pull" => first | exact Pull.here | (refine' Pull.next ?kqp; (case kqp => walk_at "pull")))
  (k_with "FinE" => ((unfold LCg.FinE); intro D' h' tk' F' N' o1'; (have o8' := offD_of o1'); (try simp only [LCg.Off1, and_true] at o1'); (try simp only [List.nil_append, List.cons_append] at N'); (try dsimp only)))
  (k_with "k_mem" => first | ((with_reducible refine mem_appL ?_); ktr_member) | ((with_reducible refine mem_appR ?_); ktr_member) | ((with_reducible refine mem_raw ?_); ktr_member))
  (k_with "enterC" => (refine' code_defC ?kqk1 ?kqk2 ?kqk3 ?kqk4 ?kqk5 ?kqkA ?kqkF ?kqkK ?kqk6 ?kqk7 ?kqk8 ?kqk9 ?kqkB ?kqkD ?_ ?kqc2 ?kqc3 ?kqc4; (case kqkA => exact rfl); (case kqkF => exact rfl); (case kqkK => assumption); (case kqk1 => k_asm); (case kqk2 => k_asm); (case kqk3 => k_asm); (case kqk4 => k_asm); (case kqk5 => k_asm); (case kqk6 => k_is); (case kqk7 => k_is); (case kqk8 => ktr_room); (case kqk9 => exact BindsTo.of_eq rfl); (case kqkB => exact rfl); (case kqkD => decide +kernel); (case kqc2 => exact rfl); (case kqc3 => exact rfl); (case kqc4 => exact rfl); k_whole; intro g' L' h' tk' cells' FG' F' N' Y' B' X' T' l1; (have l9 := hi_of l1); (have l8 := hi_succ l9); (have l7 := hi_succ2 l9); (have l6 := hi_succ3 l9); (have l5 := hi_succ4 l9); (try k_lt l1); k_cells Y'; (try simp only [List.cons_append, List.nil_append] at N'); (try dsimp only); (try k_fold)))
  (k_with "split" => first | exact Split.app | (refine' Split.cons ?kqx; (case kqx => walk_at "split")) | exact Split.nil)
  (k_with "apart" => first | assumption | exact Apart.nil | (refine' Apart.cons ?kqa ?kqb; (case kqa => walk_at "notin"); (case kqb => walk_at "apart")) | exact Apart.sub (by assumption) (by walk_at "sub"))
  (k_with "kind" => first | exact rfl | assumption)
  (k_with "call ref" => ((with_reducible show wpAny _ _ (call (Value.ref 56) _) _ _ _); k_here; k_dflt (refine' c_inv ?kqB ?kqF ?kqX ?kqN ?kqT ?kqhk ?kqSp ?kqAp ?kqNI ?kqhx ?kqhd ?kqhu ?_; (case kqB => k_asm); (case kqF => k_asm); (case kqX => k_asm); (case kqN => k_asm); (case kqT => k_asm); (case kqhk => walk_at "kind"); (case kqSp => walk_at "split"); (case kqNI => assumption); (case kqAp => walk_at "apart"); (case kqhx => k_mem); (case kqhd => ktr_room); (case kqhu => ktr_units)); intro r' t' nt' h' tk' F' N' Ap' NI'; (have mG' := Net.mG NI'); (have mD' := Net.mdG NI'); (try simp only [List.cons_append, List.nil_append] at N'); (try k_sweep)))
  (k_with "CompSrc" => (refine hold ?_))
  (k_with "CompEnd" => (refine hold ?_))
  (k_with "gin" => first | assumption | exact gin_here | (refine' gin_app ?kqp; (case kqp => walk_at "gin")) | (refine' gin_cons ?kqp; (case kqp => walk_at "gin")) | exact gin_nil | (refine' gin_two ?kqa ?kqb; (case kqa => k_mem); (case kqb => walk_at "gin")))
  (k_with "len" => first | assumption | exact rfl)
  trivial

inductive CNot (prog : Program) (w : World) (A : NA) (R n : Nat) (us : List NB) (gl : List (Int × RF)) (cp : Addr × Obj) (own : List (Addr × Obj)) (j : Nat) (ys : List Value) (news : List (Addr × Obj)) : Prop
  | mk (rs : List NB) (nt : List (Addr × Obj)) (gs : List (Int × RF)) : (ys = rs.map NB.val) → (news = cp :: (own ++ nt)) → (Apart (cp :: own) nt) → (Net prog w A nt gs (R + (n - j))) → ((∀ p ∈ nets rs, p ∈ gs)) → ((∀ p ∈ gl, p ∈ gs)) → (rs.length = j) → (∀ i, num rs i + num (us.take j) i + 1 = 2 ^ j) → CNot prog w A R n us gl cp own j ys news
theorem not_step {P A U : Nat} (x : Bool) (h : A + U + 1 = P) : A + (!x).toNat * P + (U + x.toNat * P) + 1 = P * 2 := by
  cases x
  · show A + 1 * P + (U + 0 * P) + 1 = P * 2; omega
  · show A + 0 * P + (U + 1 * P) + 1 = P * 2; omega
theorem cnot_r {prog : Program} {w : World} {A : NA} {R n j : Nat} {us rs : List NB} {gl gs : List (Int × RF)} {cp : Addr × Obj} {own nt : List (Addr × Obj)} {r : Int} {t : Tok} {f : RF} (Ap : Apart (cp :: own) nt) (NI : Net prog w A nt gs (R + (n - (j + 1)))) (hm : (r, f) ∈ gs) (hrs : ∀ p ∈ nets rs, p ∈ gs) (hgl : ∀ p ∈ gl, p ∈ gs) (hlen : rs.length = j)
    (sp : ∀ i, num (rs ++ [⟨r, t, f⟩]) i + num (us.take (j + 1)) i + 1 = 2 ^ (j + 1)) : CNot prog w A R n us gl cp own (j + 1) (rs.map NB.val ++ [.int r t]) (cp :: (own ++ nt)) :=
  ⟨rs ++ [⟨r, t, f⟩], nt, gs, by simp, rfl, Ap, NI, nets_app hrs hm, hgl, by simp [hlen], sp⟩

section
variable {prog : Program} {w : World} {mg mb : Str → Option Value} {mean : ExcName → Option Value} {loose : List Str} {dp un : Nat} {gd : Option (List Code)} {cn : Str} {cs : Scope} {L a : Addr} {ccd : Value} {cl : List (Str × Addr)} {outer : List Env} {A₀ : Around}
  {base h₀ : Heap} {m : Str → Option Value} {s : Shared} {Q E : Value → Shared → Prop} {A : NA} {news own nt : List (Addr × Obj)} {gs : List (Int × RF)} {R : Nat}

theorem c_wnotN {lu : Addr} {nu n : Nat} {us : List NB}
    (B : Below A₀ base outer h₀) (F : Fr h₀ L s.heap m) (X : (hd93.heap_1 w.params).In h₀) (N : News h₀ L s.heap news) (T : Top hd93.view_1 loose mean mg mb h₀) (hk : cs.kind = .function)
    (Sp : Split news own nt) (Ap : Apart own nt) (NI : Net prog w A nt gs (R + n)) (hl0 : (lu, listOf (vals us) nu) ∈ own) (hs : ∀ p ∈ nets us, p ∈ gs) (hn : us.length = n) (h4 : n ≤ 4) (hd : dp + 60 < recursionLimit) (hu : un + 480 < cLine)
    (ret : ∀ lr nr (rs : List NB) nt' h' tk', Fr h₀ L h' m → News h₀ L h' ((lr, listOf (vals rs) nr) :: (own ++ nt')) → Apart ((lr, listOf (vals rs) nr) :: own) nt' → Net prog w A nt' (nets rs ++ gs) R → rs.length = n → (∀ i, num rs i + num us i + 1 = 2 ^ n) → LCg.Off1 lr own → Q (.ref lr) { s with heap := h', toks := tk' }) :
    wpAny (model prog w) (ktrTop dp un gd cn cs L a ccd cl outer) (call (.ref 103) [.ref A.G, .ref lu]) Q E s := by
  obtain rfl := Sp.eq
  clear Sp
  subst hn
  have mG := NI.mG
  have mD := NI.mdG
  refine wpAny_call ?_
  k_dflt (walk_at "enterC")
  k_steps
  rename News _ _ _ _ => N1
  rename Fr _ _ _ _ => F1
  unfold Hold
  with_unfolding_all refine LCg.CompSrc.ledger (its := vals us) (k := nu) (by rfl) F1 N1 (.tail _ (List.mem_append_left _ hl0)) (by simp [vals, sizeLine_eq]; omega) ?_
  intro gg
  have sz : (vals us).size = us.length := by simp [vals]
  rw [sz]
  refine' cr_inv (CNot prog w A R us.length us gs ?cp own) us.length ?step ?fin us.length 0 [] _ (Nat.zero_add _) ?init
  case init => refine' ⟨[], nt, gs, rfl, rfl, ?ap, NI.le (by omega), (fun p h => nomatch h), (fun p h => h), rfl, fun i => by simp [num, nm]⟩; (case ap => walk_at "apart")
  case step =>
    clear N1 F1
    rintro j ys news hj ⟨rs, nt1, gs1, rfl, rfl, Ap3, NI3, hrs, hgl, hlen, hsp⟩ v I oI C oC D m₂ hh tk E' hv hC hx2 F2 N2 off ne
    obtain ⟨b, hb⟩ := getL (us := us) rfl hj
    have ev : v = .int b.n b.t := by
      simp [vals, hb] at hv
      exact hv.symm
    subst ev
    have hbm := hgl _ (mem_nets hs hb)
    have o9 := offM_of off
    have NI4 : Net prog w A nt1 gs1 ((R + (us.length - (j + 1))) + 1) := NI3.le (by omega)
    clear NI3
    have mG := NI4.mG
    have mD := NI4.mdG
    k_steps
    unfold Hold
    rename News _ _ _ _ => N5
    rename Net _ _ _ _ _ _ => NI5
    rename Apart _ _ => Ap5
    rename Fr _ _ _ _ => F5
    refine LCg.CompEnd.intro F5 N5 _ (fun _ h => h) (off3_next (Split.cons Split.app) o9 (fun p hp => List.mem_append_left nt1 hp) Ap5) (.inr ⟨_, .tail _ (List.mem_append_left _ hl0), rfl, _, rfl⟩) (cnot_r Ap5.tail.tail.tail (NI5.le (by omega)) (.head _) (gin_cons hrs) (gin_cons hgl) hlen fun i => ?_)
    rw [num_app, hlen, num_take hb, Nat.pow_succ]
    exact not_step (b.f i) (hsp i)
  case fin =>
    rintro ys news ⟨rs, nt1, gs1, rfl, rfl, Ap3, NI3, hrs, hgl, hlen, hsp⟩
    k_steps
    rename News _ _ _ _ => N5
    rename OffD _ _ => o8
    refine' ret _ _ rs nt1 _ _ ?zF (news_dropV N5) (ap_off Ap3.tail o8) (net_fin NI3 (by omega) (gall hrs hgl)) hlen ?zS ?zO
    case zF => k_asm
    case zS =>
      intro i
      have h := hsp i
      rw [List.take_of_length_le (Nat.le_refl _)] at h
      exact h
    case zO => exact off1_of fun p hp => o8 p (.tail _ (List.mem_append_left _ hp))
end
end Mine93
-- Zmx
namespace Mine93

theorem kwZmx0 : True := by
  k_with_none
  (k_with "room" => first | exact Nat.le_of_ble_eq_true rfl | exact room2 (by assumption) (Nat.le_of_ble_eq_true rfl) | exact room3 (by assumption) (Nat.le_of_ble_eq_true rfl) | exact room1 (by assumption))
  (k_with "units" => first | exact Nat.le_of_ble_eq_true rfl | exact room2 (by assumption) (Nat.le_of_ble_eq_true rfl) | exact room3 (by assumption) (Nat.le_of_ble_eq_true rfl) | exact room1 (by assumption))
  (k_with "splits" => first | exact Split.app | (refine' Split.cons ?kqx; (case kqx => walk_at "splits")) | exact Split.nil)
  (k_with "sub" => ((repeat (first | exact sub_refl | exact sub_appL | exact sub_appR | (refine sub_cons ?kqmem ?_; (case kqmem => k_mem)) | refine sub_tail ?_)); done))
  (k_with "notin" => first | assumption | exact Apart.at (by assumption) (by k_mem) | exact OffM.notI (by assumption) (by walk_at "sub") | exact OffM.notC (by assumption) (by walk_at "sub") | exact OffM.notD (by assumption) (by walk_at "sub") | exact Hi.not (by assumption) (by walk_at "sub") | exact OffD.not (by assumption) (by walk_at "sub") | exact not_of_lt (by walk_at "lts") (by walk_at "sub"))
  (k_with "k_ne" => ((try dsimp only); first | assumption | exact Ne.symm (by assumption) | (refine' OffD.at ?kqh ?kqm; (case kqh => assumption); (case kqm => walk_at "ina")) | (refine' OffD.at' ?kqh ?kqm; (case kqh => assumption); (case kqm => walk_at "ina")) | exact ne_lt' (by assumption) | exact ne_gt' (by assumption) | fail))
  (k_with "k_all" => first | exact List.forall_mem_nil _ | (refine' List.forall_mem_cons.mpr ⟨?kqa, ?kqb⟩; (case kqa => k_ne); (case kqb => k_all)) | assumption | exact Apart.ne (by assumption) (by k_mem) | (refine all_app ?_ ?_ <;> k_all) | exact Hi.ne (by assumption) (by walk_at "sub") | exact ne_of_lt' (by walk_at "lts") (by walk_at "sub") | exact OffD.ne' (by assumption) (by walk_at "sub"))
  (k_with "eval ListComp" => (k_here; k_dflt (refine LCg.ListComp_U (F₀ := by k_asm) (by with_unfolding_all rfl) (by decide) (by rfl) (by decide) (by rfl) ?_); k_dflt lcg_toSrc))
  (k_with "pull" => first | exact Pull.here | (refine' Pull.next ?kqp; (case kqp => walk_at "pull")))
  (k_with "FinE" => ((unfold LCg.FinE); intro D' h' tk' F' N' o1'; (have o8' := offD_of o1'); (try simp only [LCg.Off1, and_true] at o1'); (try simp only [List.nil_append, List.cons_append] at N'); (try dsimp only)))
  (k_with "k_mem" => first | ((with_reducible refine mem_appL ?_); ktr_member) | ((with_reducible refine mem_appR ?_); ktr_member) | ((with_reducible refine mem_raw ?_); ktr_member))
  (k_with "enterC" => (refine' code_defC ?kqk1 ?kqk2 ?kqk3 ?kqk4 ?kqk5 ?kqkA ?kqkF ?kqkK ?kqk6 ?kqk7 ?kqk8 ?kqk9 ?kqkB ?kqkD ?_ ?kqc2 ?kqc3 ?kqc4; (case kqkA => exact rfl); (case kqkF => exact rfl); (case kqkK => assumption); (case kqk1 => k_asm); (case kqk2 => k_asm); (case kqk3 => k_asm); (case kqk4 => k_asm); (case kqk5 => k_asm); (case kqk6 => k_is); (case kqk7 => k_is); (case kqk8 => ktr_room); (case kqk9 => exact BindsTo.of_eq rfl); (case kqkB => exact rfl); (case kqkD => decide +kernel); (case kqc2 => exact rfl); (case kqc3 => exact rfl); (case kqc4 => exact rfl); k_whole; intro g' L' h' tk' cells' FG' F' N' Y' B' X' T' l1; (have l9 := hi_of l1); (have l8 := hi_succ l9); (have l7 := hi_succ2 l9); (have l6 := hi_succ3 l9); (have l5 := hi_succ4 l9); (try k_lt l1); k_cells Y'; (try simp only [List.cons_append, List.nil_append] at N'); (try dsimp only); (try k_fold)))
  (k_with "split" => first | exact Split.app | (refine' Split.cons ?kqx; (case kqx => walk_at "split")) | exact Split.nil)
  (k_with "apart" => first | assumption | exact Apart.nil | (refine' Apart.cons ?kqa ?kqb; (case kqa => walk_at "notin"); (case kqb => walk_at "apart")) | exact Apart.sub (by assumption) (by walk_at "sub"))
  (k_with "kind" => first | exact rfl | assumption)
  (k_with "call ref" => ((with_reducible show wpAny _ _ (call (Value.ref 91) _) _ _ _); k_here; k_dflt (refine' c_mux ?kqB ?kqF ?kqX ?kqN ?kqT ?kqhk ?kqSp ?kqAp ?kqNI ?kqhx ?kqhy ?kqhz ?kqhd ?kqhu ?_; (case kqB => k_asm); (case kqF => k_asm); (case kqX => k_asm); (case kqN => k_asm); (case kqT => k_asm); (case kqhk => walk_at "kind"); (case kqSp => walk_at "split"); (case kqNI => assumption); (case kqAp => walk_at "apart"); (case kqhx => k_mem); (case kqhy => k_mem); (case kqhz => k_mem); (case kqhd => ktr_room); (case kqhu => ktr_units)); intro r' t' nt' h' tk' F' N' Ap' NI'; (have mG' := Net.mG NI'); (have mD' := Net.mdG NI'); (try simp only [List.cons_append, List.nil_append] at N'); (try k_sweep)))
  (k_with "CompSrc" => (refine hold ?_))
  (k_with "CompEnd" => (refine hold ?_))
  (k_with "gin" => first | assumption | exact gin_here | (refine' gin_app ?kqp; (case kqp => walk_at "gin")) | (refine' gin_cons ?kqp; (case kqp => walk_at "gin")) | exact gin_nil | (refine' gin_two ?kqa ?kqb; (case kqa => k_mem); (case kqb => walk_at "gin")))
  (k_with "len" => first | assumption | exact rfl)
  trivial

inductive CMux (prog : Program) (w : World) (A : NA) (R n : Nat) (us vs : List NB) (f0 : RF) (gl : List (Int × RF)) (bs : List (Addr × Obj)) (j : Nat) (ys : List Value) (news : List (Addr × Obj)) : Prop
  | mk (rs : List NB) (nt : List (Addr × Obj)) (gs : List (Int × RF)) : (ys = rs.map NB.val) → (news = bs ++ nt) → (Apart bs nt) → (Net prog w A nt gs (R + 3 * (n - j))) → ((∀ p ∈ nets rs, p ∈ gs)) → ((∀ p ∈ gl, p ∈ gs)) → (rs.length = j) → (∀ i, num rs i = if f0 i then num (vs.take j) i else num (us.take j) i) → CMux prog w A R n us vs f0 gl bs j ys news
theorem ap_off4 {D : Addr} {o : Obj} {a b c d : Addr × Obj} {own nt : List (Addr × Obj)} (Ap : Apart own nt) (h : OffD D (a :: b :: c :: d :: (own ++ nt))) : Apart ((D, o) :: own) nt := fun x hx q hq => by
  rcases List.mem_cons.mp hx with rfl | hx
  · exact Ne.symm (h q (.tail _ (.tail _ (.tail _ (.tail _ (List.mem_append_right _ hq))))))
  · exact Ap x hx q hq
theorem news_drop4 {h₀ h : Heap} {L : Addr} {x a b c d : Addr × Obj} {r : List (Addr × Obj)} (N : News h₀ L h (x :: a :: b :: c :: d :: r)) : News h₀ L h (x :: r) := fun p hp => N p (by
  rcases List.mem_cons.mp hp with rfl | hp
  · exact .head _
  · exact .tail _ (.tail _ (.tail _ (.tail _ (.tail _ hp)))))
theorem mux_step {A B P : Nat} {x y : Bool} (c : Bool) : (if c = true then A else B) + (if c = true then x else y).toNat * P = if c = true then A + x.toNat * P else B + y.toNat * P := by cases c <;> rfl
theorem cmux_r {prog : Program} {w : World} {A : NA} {R n j : Nat} {us vs rs : List NB} {f0 : RF} {gl gs : List (Int × RF)} {bs nt : List (Addr × Obj)} {r : Int} {t : Tok} {f : RF} (Ap : Apart bs nt) (NI : Net prog w A nt gs (R + 3 * (n - (j + 1)))) (hm : (r, f) ∈ gs) (hrs : ∀ p ∈ nets rs, p ∈ gs) (hgl : ∀ p ∈ gl, p ∈ gs) (hlen : rs.length = j)
    (sp : ∀ i, num (rs ++ [⟨r, t, f⟩]) i = if f0 i then num (vs.take (j + 1)) i else num (us.take (j + 1)) i) : CMux prog w A R n us vs f0 gl bs (j + 1) (rs.map NB.val ++ [.int r t]) (bs ++ nt) :=
  ⟨rs ++ [⟨r, t, f⟩], nt, gs, by simp, rfl, Ap, NI, nets_app hrs hm, hgl, by simp [hlen], sp⟩
theorem kwZmx1 : True := by
  (k_with "call builtin:len cons nil" => ((with_reducible show wpAny _ _ (call (Value.builtin "len") [Value.ref _]) _ _ _); k_here; k_dflt (refine' len_nb ?kqN ?kqm ?kqhn ?kqh8 ?_; (case kqN => k_asm); (case kqm => k_mem); (case kqhn => exact rfl); (case kqh8 => exact sm4 (by assumption)))))
  (k_with "subscriptTail Name Name ref int" => ((with_reducible show wpAny _ _ (subscriptTail _ _ (Value.ref _) (Value.int _ _)) _ _ _); k_here; k_dflt (refine' item_nb ?kqN ?kqm ?kqk ?kqh9 ?kqx ?_; (case kqN => k_asm); (case kqm => k_mem); (case kqk => exact rfl); (case kqh9 => assumption); (case kqx => assumption))))
  trivial

section
variable {prog : Program} {w : World} {mg mb : Str → Option Value} {mean : ExcName → Option Value} {loose : List Str} {dp un : Nat} {gd : Option (List Code)} {cn : Str} {cs : Scope} {L a : Addr} {ccd : Value} {cl : List (Str × Addr)} {outer : List Env} {A₀ : Around}
  {base h₀ : Heap} {m : Str → Option Value} {s : Shared} {Q E : Value → Shared → Prop} {A : NA} {news own nt : List (Addr × Obj)} {gs : List (Int × RF)} {R : Nat}

theorem c_wmuxN {lu lv : Addr} {nu nv n : Nat} {us vs : List NB} {z : Int} {tz : Tok} {fz : RF}
    (B : Below A₀ base outer h₀) (F : Fr h₀ L s.heap m) (X : (hd93.heap_1 w.params).In h₀) (N : News h₀ L s.heap news) (T : Top hd93.view_1 loose mean mg mb h₀) (hk : cs.kind = .function)
    (Sp : Split news own nt) (Ap : Apart own nt) (NI : Net prog w A nt gs (R + 3 * n)) (hl0 : (lu, listOf (vals us) nu) ∈ own) (hl1 : (lv, listOf (vals vs) nv) ∈ own) (hz : (z, fz) ∈ gs) (hs : ∀ p ∈ nets us, p ∈ gs) (hv : ∀ p ∈ nets vs, p ∈ gs) (hn : us.length = n) (hm : vs.length = n) (h4 : n ≤ 4) (hd : dp + 80 < recursionLimit) (hu : un + 640 < cLine)
    (ret : ∀ lr nr (rs : List NB) nt' h' tk', Fr h₀ L h' m → News h₀ L h' ((lr, listOf (vals rs) nr) :: (own ++ nt')) → Apart ((lr, listOf (vals rs) nr) :: own) nt' → Net prog w A nt' (nets rs ++ gs) R → rs.length = n → (∀ i, num rs i = if fz i then num vs i else num us i) → LCg.Off1 lr own → Q (.ref lr) { s with heap := h', toks := tk' }) :
    wpAny (model prog w) (ktrTop dp un gd cn cs L a ccd cl outer) (call (.ref 108) [.ref A.G, .int z tz, .ref lu, .ref lv]) Q E s := by
  obtain rfl := Sp.eq
  clear Sp
  subst hn
  have le4 : Le4 us.length := h4
  clear h4
  have mG := NI.mG
  have mD := NI.mdG
  refine wpAny_call ?_
  k_dflt (walk_at "enterC")
  k_steps
  rename News _ _ _ _ => N1
  rename Fr _ _ _ _ => F1
  rename IsRange _ _ _ _ _ _ _ _ => hr
  unfold Hold
  have ru := rng_up (n := us.length) le4
  with_unfolding_all refine LCg.CompSrc.range (n := us.length) (by rfl) F1 N1 hr ru.1 ru.2 (by rw [sizeLine_eq]; exact Nat.le_trans le4 (by decide)) ?_
  intro gg
  refine' cr_inv (CMux prog w A R us.length us vs fz gs (_ :: _ :: _ :: _ :: own)) us.length ?step ?fin us.length 0 [] _ (Nat.zero_add _) ?init
  case init => refine' ⟨[], nt, gs, rfl, rfl, ?ap, NI.le (by omega), (fun p h => nomatch h), (fun p h => h), rfl, fun i => by simp [num, nm]⟩; (case ap => walk_at "apart")
  case step =>
    clear N1 F1 hr
    rintro j ys news hj ⟨rs, nt1, gs1, rfl, rfl, Ap3, NI3, hrs, hgl, hlen, hsp⟩ v I oI C oC D m₂ hh tk E' hv9 hC hx2 F2 N2 off ne
    obtain ⟨tv9, rfl⟩ := hv9
    rw [Int.zero_add] at hx2
    obtain ⟨p, hp⟩ : ∃ p, us.length = j + 1 + p := ⟨us.length - (j + 1), by omega⟩
    have hj9 : j < 9 := Nat.lt_of_lt_of_le hj (Nat.le_trans le4 (by decide))
    obtain ⟨b, hb⟩ := getL (us := us) rfl hj
    obtain ⟨d, hd9⟩ := getL (us := vs) hm hj
    have hbm := hgl _ (mem_nets hs hb)
    have hdm := hgl _ (mem_nets hv hd9)
    have hzm := hgl _ hz
    have o9 := offM_of off
    have NI4 : Net prog w A nt1 gs1 ((R + 3 * (us.length - (j + 1))) + 3) := NI3.le (by omega)
    clear NI3
    have mG := NI4.mG
    have mD := NI4.mdG
    simp only [List.cons_append] at N2 off o9
    k_steps
    unfold Hold
    rename News _ _ _ _ => N5
    rename Net _ _ _ _ _ _ => NI5
    rename Apart _ _ => Ap5
    rename Fr _ _ _ _ => F5
    refine LCg.CompEnd.intro F5 N5 _ (fun _ h => h) (off3_next (Split.cons (Split.cons (Split.cons (Split.cons Split.app)))) o9 (fun p hp => List.mem_append_left nt1 hp) Ap5) trivial (cmux_r Ap5.tail.tail.tail (NI5.le (by omega)) (.head _) (gin_cons hrs) (gin_cons hgl) hlen fun i => ?_)
    rw [num_app, hlen, num_take hb, num_take hd9, hsp i]
    exact mux_step (fz i)
  case fin =>
    rintro ys news ⟨rs, nt1, gs1, rfl, rfl, Ap3, NI3, hrs, hgl, hlen, hsp⟩
    k_steps
    rename News _ _ _ _ => N5
    rename OffD _ _ => o8
    refine' ret _ _ rs nt1 _ _ ?zF (news_drop4 N5) (ap_off4 Ap3.tail.tail.tail.tail o8) (net_fin NI3 (by omega) (gall hrs hgl)) hlen ?zS ?zO
    case zF => k_asm
    case zS =>
      intro i
      have h := hsp i
      rw [List.take_of_length_le (Nat.le_refl _), List.take_of_length_le (Nat.le_of_eq hm)] at h
      exact h
    case zO => exact off1_of fun p hp => o8 p (.tail _ (.tail _ (.tail _ (.tail _ (List.mem_append_left _ hp)))))
end
end Mine93
-- Zsb
namespace Mine93

theorem kwZsb0 : True := by
  k_with_none
  (k_with "room" => first | exact Nat.le_of_ble_eq_true rfl | exact room2 (by assumption) (Nat.le_of_ble_eq_true rfl) | exact room3 (by assumption) (Nat.le_of_ble_eq_true rfl) | exact room1 (by assumption))
  (k_with "units" => first | exact Nat.le_of_ble_eq_true rfl | exact room2 (by assumption) (Nat.le_of_ble_eq_true rfl) | exact room3 (by assumption) (Nat.le_of_ble_eq_true rfl) | exact room1 (by assumption))
  (k_with "splits" => first | exact Split.app | (refine' Split.cons ?kqx; (case kqx => walk_at "splits")) | exact Split.nil)
  (k_with "sub" => ((repeat (first | exact sub_refl | exact sub_appL | exact sub_appR | (refine sub_cons ?kqmem ?_; (case kqmem => k_mem)) | refine sub_tail ?_)); done))
  (k_with "notin" => first | assumption | exact Apart.at (by assumption) (by k_mem) | exact OffM.notI (by assumption) (by walk_at "sub") | exact OffM.notC (by assumption) (by walk_at "sub") | exact OffM.notD (by assumption) (by walk_at "sub") | exact Hi.not (by assumption) (by walk_at "sub") | exact OffD.not (by assumption) (by walk_at "sub") | exact not_of_lt (by walk_at "lts") (by walk_at "sub"))
  (k_with "k_ne" => ((try dsimp only); first | assumption | exact Ne.symm (by assumption) | (refine' OffD.at ?kqh ?kqm; (case kqh => assumption); (case kqm => walk_at "ina")) | (refine' OffD.at' ?kqh ?kqm; (case kqh => assumption); (case kqm => walk_at "ina")) | exact ne_lt' (by assumption) | exact ne_gt' (by assumption) | fail))
  (k_with "k_all" => first | exact List.forall_mem_nil _ | (refine' List.forall_mem_cons.mpr ⟨?kqa, ?kqb⟩; (case kqa => k_ne); (case kqb => k_all)) | assumption | exact Apart.ne (by assumption) (by k_mem) | (refine all_app ?_ ?_ <;> k_all) | exact Hi.ne (by assumption) (by walk_at "sub") | exact ne_of_lt' (by walk_at "lts") (by walk_at "sub") | exact OffD.ne' (by assumption) (by walk_at "sub"))
  (k_with "pull" => first | exact Pull.here | (refine' Pull.next ?kqp; (case kqp => walk_at "pull")))
  (k_with "k_mem" => first | ((with_reducible refine mem_appL ?_); ktr_member) | ((with_reducible refine mem_appR ?_); ktr_member) | ((with_reducible refine mem_raw ?_); ktr_member))
  (k_with "split" => first | exact Split.app | (refine' Split.cons ?kqx; (case kqx => walk_at "split")) | exact Split.nil)
  (k_with "apart" => first | assumption | exact Apart.nil | (refine' Apart.cons ?kqa ?kqb; (case kqa => walk_at "notin"); (case kqb => walk_at "apart")) | exact Apart.sub (by assumption) (by walk_at "sub"))
  (k_with "kind" => first | exact rfl | assumption)
  (k_with "gin" => first | assumption | exact gin_here | (refine' gin_app ?kqp; (case kqp => walk_at "gin")) | (refine' gin_cons ?kqp; (case kqp => walk_at "gin")) | exact gin_nil | (refine' gin_two ?kqa ?kqb; (case kqa => k_mem); (case kqb => walk_at "gin")))
  (k_with "len" => first | assumption | exact rfl)
  trivial

theorem ap_pick {a b c : Addr × Obj} {own nt : List (Addr × Obj)} (h : Apart (a :: b :: c :: own) nt) : Apart (b :: own) nt := fun x hx => by
  rcases List.mem_cons.mp hx with rfl | hx
  · exact h _ (.tail _ (.head _))
  · exact h _ (.tail _ (.tail _ (.tail _ hx)))
theorem sub_spec {r u v x P c : Nat} (hr : r < P) (hv : v < P) (h1 : x + v + 1 = P) (h2 : r + P * c = u + x + 1) : r = (u + P - v) % P := by
  have e : u + P - v = r + P * c := by omega
  rw [e, Nat.add_mul_mod_self_left, Nat.mod_eq_of_lt hr]
theorem kwZsb1 : True := by
  (k_with "call ref" => ((with_reducible show wpAny _ _ (call (Value.ref 103) _) _ _ _); k_here; k_dflt (refine' c_wnotN ?kqB ?kqF ?kqX ?kqN ?kqT ?kqhk ?kqSp ?kqAp ?kqNI ?kql0 ?kqhs ?kqhn ?kqh4 ?kqhd ?kqhu ?_; (case kqB => k_asm); (case kqF => k_asm); (case kqX => k_asm); (case kqN => k_asm); (case kqT => k_asm); (case kqhk => walk_at "kind"); (case kqSp => walk_at "split"); (case kqAp => walk_at "apart"); (case kqhd => ktr_room); (case kqhu => ktr_units); (case kqNI => assumption); (case kql0 => k_mem); (case kqhs => walk_at "gin"); (case kqhn => assumption); (case kqh4 => assumption)); intro lr' nr' rs' nt' h' tk' F' N' Ap' NI' len' sp' o1'; (have o8' := offD_of o1'); (have mG' := Net.mG NI'); (have mD' := Net.mdG NI'); (try simp only [List.cons_append, List.nil_append] at N'); (try k_sweep)))
  (k_with "call ref" => ((with_reducible show wpAny _ _ (call (Value.ref 134) _) _ _ _); k_here; k_dflt (refine' c_addN ?kqB ?kqF ?kqX ?kqN ?kqT ?kqhk ?kqSp ?kqAp ?kqNI ?kql0 ?kql1 ?kqhz ?kqhs ?kqhv ?kqhn ?kqhm ?kqh4 ?kqhd ?kqhu ?_; (case kqB => k_asm); (case kqF => k_asm); (case kqX => k_asm); (case kqN => k_asm); (case kqT => k_asm); (case kqhk => walk_at "kind"); (case kqSp => walk_at "split"); (case kqAp => walk_at "apart"); (case kqhd => ktr_room); (case kqhu => ktr_units); (case kqNI => assumption); (case kql0 => k_mem); (case kql1 => k_mem); (case kqhz => k_mem); (case kqhs => walk_at "gin"); (case kqhv => walk_at "gin"); (case kqhn => assumption); (case kqhm => assumption); (case kqh4 => assumption)); intro D' lr' nr' rs' rc' uc' Fc' nt' h' tk' F' N' Ap' NI' len' sp' o1' o2'; (have o8' := offD_of o1'); (have mG' := Net.mG NI'); (have mD' := Net.mdG NI'); (try simp only [List.cons_append, List.nil_append] at N'); (try k_sweep)))
  trivial

section
variable {prog : Program} {w : World} {mg mb : Str → Option Value} {mean : ExcName → Option Value} {loose : List Str} {dp un : Nat} {gd : Option (List Code)} {cn : Str} {cs : Scope} {L a : Addr} {ccd : Value} {cl : List (Str × Addr)} {outer : List Env} {A₀ : Around}
  {base h₀ : Heap} {m : Str → Option Value} {s : Shared} {Q E : Value → Shared → Prop} {A : NA} {news own nt : List (Addr × Obj)} {gs : List (Int × RF)} {R : Nat}

theorem c_subN {lu lv : Addr} {nu nv n : Nat} {us vs : List NB}
    (B : Below A₀ base outer h₀) (F : Fr h₀ L s.heap m) (X : (hd93.heap_1 w.params).In h₀) (N : News h₀ L s.heap news) (T : Top hd93.view_1 loose mean mg mb h₀) (hk : cs.kind = .function)
    (Sp : Split news own nt) (Ap : Apart own nt) (NI : Net prog w A nt gs (R + 5 * n + n)) (hl0 : (lu, listOf (vals us) nu) ∈ own) (hl1 : (lv, listOf (vals vs) nv) ∈ own) (hs : ∀ p ∈ nets us, p ∈ gs) (hv : ∀ p ∈ nets vs, p ∈ gs) (hn : us.length = n) (hm : vs.length = n) (h4 : n ≤ 4) (hd : dp + 100 < recursionLimit) (hu : un + 800 < cLine)
    (ret : ∀ lr nr (rs : List NB) nt' h' tk', Fr h₀ L h' m → News h₀ L h' ((lr, listOf (vals rs) nr) :: (own ++ nt')) → Apart ((lr, listOf (vals rs) nr) :: own) nt' → Net prog w A nt' (nets rs ++ gs) R → rs.length = n → (∀ i, num rs i = (num us i + 2 ^ n - num vs i) % 2 ^ n) → LCg.Off1 lr own → Q (.ref lr) { s with heap := h', toks := tk' }) :
    wpAny (model prog w) (ktrTop dp un gd cn cs L a ccd cl outer) (call (.ref 141) [.ref A.G, .ref lu, .ref lv]) Q E s := by
  obtain rfl := Sp.eq
  clear Sp
  have mG := NI.mG
  have mD := NI.mdG
  replace NI := NI.one
  refine wpAny_call ?_
  k_dflt (ktr_enter)
  rename Fr _ _ _ (fun y => List.lookup y _) => FN
  replace FN : Fr _ _ _ (fun y9 => List.lookup y9 [(Str.ofString "v", .ref lv), (Str.ofString "u", .ref lu), (Str.ofString "g", .ref A.G)]) := FN
  generalize (Shared.toks s + List.length _) = tk0
  k_steps
  rename News _ _ _ _ => N5
  rename Net _ _ _ _ _ _ => NI5
  rename Apart _ _ => Ap5
  rename LCg.Off1 _ (_ :: own) => o5
  rename ∀ i, num _ i + 2 ^ n * _ = _ => spa
  rename ∀ i, num _ i + num vs i + 1 = 2 ^ n => spn
  rename List.length _ = n => ln5
  refine' ret _ _ _ _ _ _ ?zF (news_sub (l' := _ :: (own ++ _)) N5 (List.forall_mem_cons.mpr ⟨.tail _ (.head _), fun p hp => .tail _ (.tail _ (.tail _ hp))⟩)) (ap_pick Ap5) (net_fin NI5 (Nat.le_refl _) ?zG) ln5 (fun i => sub_spec (num_ltn ln5 i) (num_ltn hm i) (spn i) (spa i)) o5.2
  case zF => k_asm
  case zG => exact gsub_tail (gall gin_here (gsub_app (gsub_app (gsub_tail (fun _ h => h)))))
end
end Mine93
-- Zml
namespace Mine93
theorem rep_100 {W : Addr} {p k n c : Nat} {tz : Tok} {ys : List NB} {bs nt : List (Addr × Obj)} (_A : Apart ((W, listOf (vals (List.replicate p ⟨0, tz, fF⟩ ++ ys)) c) :: bs) nt) (h : ys.length = k) (hk : k < n - p) (hp : p < n) (h9 : n < 9) :
    (List.replicate p (⟨0, tz, fF⟩ : NB) ++ ys).length ≤ 100 := by rw [List.length_append, List.length_replicate, h]; omega
theorem mul_end {I D W : Addr} {o o' : Obj} {own nt nt' : List (Addr × Obj)} (h : ∀ q ∈ (W, o) :: (own ++ nt), q.1 ≠ I) (h2 : I ≠ D) (k : ∀ q ∈ nt', I ≠ q.1) : ∀ q ∈ (D, o') :: (own ++ nt'), q.1 ≠ I := fun q hq => by
  rcases List.mem_cons.mp hq with rfl | hq
  · exact h2.symm
  rcases List.mem_append.mp hq with hq | hq
  · exact h q (.tail _ (List.mem_append_left _ hq))
  · exact (k q hq).symm
theorem num_cut (us : List NB) (k i : Nat) {n : Nat} (hn : us.length = n) (hk : k ≤ n) : num us i = num (us.take k) i + 2 ^ k * num (us.drop k) i := by
  have h := num_append (a := us.take k) (b := us.drop k) (i := i)
  rw [List.take_append_drop, List.length_take, Nat.min_eq_left (by omega)] at h
  exact h
theorem rep_nets {W : Addr} {p c : Nat} {tz : Tok} {ys : List NB} {bs nt : List (Addr × Obj)} {gs : List (Int × RF)} (_A : Apart ((W, listOf (vals (List.replicate p ⟨0, tz, fF⟩ ++ ys)) c) :: bs) nt) (h : ((0 : Int), fF) ∈ gs) (hy : ∀ p ∈ nets ys, p ∈ gs) :
    ∀ q ∈ nets (List.replicate p ⟨0, tz, fF⟩ ++ ys), q ∈ gs := nets_repapp h hy
theorem rep_len {W : Addr} {p q n c : Nat} {tz : Tok} {ys : List NB} {bs nt : List (Addr × Obj)} (_A : Apart ((W, listOf (vals (List.replicate p ⟨0, tz, fF⟩ ++ ys)) c) :: bs) nt) (h : ys.length = q) (e : p + q = n) :
    (List.replicate p (⟨0, tz, fF⟩ : NB) ++ ys).length = n := by rw [List.length_append, List.length_replicate, h, e]
theorem mul_off {h₀ h : Heap} {L : Addr} {a b c D S : Nat} {o1 o2 o3 o4 : Obj} {own nt : List (Addr × Obj)} (_N : News h₀ L h ((D, o1) :: (((S, o2) :: (b, o4) :: (c, o3) :: own) ++ nt))) (l4 : a < D ∧ b < D ∧ c < D ∧ AllLt D (own ++ nt)) (l5 : D < S ∧ a < S ∧ b < S ∧ c < S ∧ AllLt S (own ++ nt)) :
    ∀ q ∈ ((S, o2) :: (b, o4) :: (c, o3) :: own : List (Addr × Obj)), q.1 ≠ D := fun q hq => by
  rcases List.mem_cons.mp hq with rfl | hq
  · exact Nat.ne_of_gt l5.1
  rcases List.mem_cons.mp hq with rfl | hq
  · exact Nat.ne_of_lt l4.2.1
  rcases List.mem_cons.mp hq with rfl | hq
  · exact Nat.ne_of_lt l4.2.2.1
  · exact Nat.ne_of_lt (ktn_ltOf l4.2.2.2 q (List.mem_append_left _ hq))
inductive MInv (prog : Program) (w : World) (A : NA) (R n : Nat) (lu lv : Addr) (us vs : List NB) (tn : Tok) (I : Addr) (own : List (Addr × Obj)) (gl : List (Int × RF)) (j : Nat) (m : Str → Option Value) (news : List (Addr × Obj)) : Prop
  | mk (D : Addr) (c : Nat) (rs : List NB) (nt : List (Addr × Obj)) (gs : List (Int × RF)) : news = (D, listOf (vals rs) c) :: (own ++ nt) → Apart ((D, listOf (vals rs) c) :: own) nt → (∀ p ∈ news, p.1 ≠ I) → (∀ p ∈ own, p.1 ≠ D) → Net prog w A nt gs (R + (n - j) * (6 * n)) → (∀ p ∈ nets rs, p ∈ gs) → (∀ p ∈ gl, p ∈ gs) → rs.length = n →
    m (Str.ofString "g") = some (.ref A.G) → m (Str.ofString "u") = some (.ref lu) → m (Str.ofString "v") = some (.ref lv) → m (Str.ofString "width") = some (.int (n : Int) tn) → m (Str.ofString "total") = some (.ref D) →
    (∀ i, num rs i = num us i * num (vs.take j) i % 2 ^ n) → MInv prog w A R n lu lv us vs tn I own gl j m news
inductive RwInv (prog : Program) (w : World) (A : NA) (R k : Nat) (lu lv D I2 : Addr) (us : List NB) (tn tp tz : Tok) (n p : Nat) (d : NB) (bs : List (Addr × Obj)) (gl : List (Int × RF)) (j : Nat) (m : Str → Option Value) (news : List (Addr × Obj)) : Prop
  | mk (W : Addr) (c : Nat) (ys : List NB) (nt : List (Addr × Obj)) (gs : List (Int × RF)) : news = (W, listOf (vals (List.replicate p ⟨0, tz, fF⟩ ++ ys)) c) :: (bs ++ nt) → Apart ((W, listOf (vals (List.replicate p ⟨0, tz, fF⟩ ++ ys)) c) :: bs) nt → (∀ q ∈ news, q.1 ≠ I2) → (∀ q ∈ bs, q.1 ≠ W) → Net prog w A nt gs (R + (k - j)) → (∀ p ∈ nets ys, p ∈ gs) → (∀ p ∈ gl, p ∈ gs) → ys.length = j →
    m (Str.ofString "g") = some (.ref A.G) → m (Str.ofString "u") = some (.ref lu) → m (Str.ofString "v") = some (.ref lv) → m (Str.ofString "width") = some (.int (n : Int) tn) → m (Str.ofString "total") = some (.ref D) → m (Str.ofString "place") = some (.int (p : Int) tp) → m (Str.ofString "row") = some (.ref W) →
    (∀ i, num ys i = (d.f i).toNat * num (us.take j) i) → RwInv prog w A R k lu lv D I2 us tn tp tz n p d bs gl j m news
theorem kwZml0 : True := by
  k_with_none
  (k_with "room" => first | exact Nat.le_of_ble_eq_true rfl | exact room2 (by assumption) (Nat.le_of_ble_eq_true rfl) | exact room3 (by assumption) (Nat.le_of_ble_eq_true rfl) | exact room1 (by assumption))
  (k_with "units" => first | exact Nat.le_of_ble_eq_true rfl | exact room2 (by assumption) (Nat.le_of_ble_eq_true rfl) | exact room3 (by assumption) (Nat.le_of_ble_eq_true rfl) | exact room1 (by assumption))
  (k_with "splits" => first | exact Split.app | (refine' Split.cons ?kqx; (case kqx => walk_at "splits")) | exact Split.nil)
  (k_with "sub" => ((repeat (first | exact sub_refl | exact sub_appL | exact sub_appR | (refine sub_cons ?kqmem ?_; (case kqmem => k_mem)) | refine sub_tail ?_)); done))
  (k_with "notin" => first | assumption | exact Apart.at (by assumption) (by k_mem) | exact OffM.notI (by assumption) (by walk_at "sub") | exact OffM.notC (by assumption) (by walk_at "sub") | exact OffM.notD (by assumption) (by walk_at "sub") | exact Hi.not (by assumption) (by walk_at "sub") | exact OffD.not (by assumption) (by walk_at "sub") | exact not_of_lt (by walk_at "lts") (by walk_at "sub"))
  (k_with "k_ne" => ((try dsimp only); first | assumption | exact Ne.symm (by assumption) | (refine' OffD.at ?kqh ?kqm; (case kqh => assumption); (case kqm => walk_at "ina")) | (refine' OffD.at' ?kqh ?kqm; (case kqh => assumption); (case kqm => walk_at "ina")) | exact ne_lt' (by assumption) | exact ne_gt' (by assumption) | fail))
  (k_with "k_all" => first | exact List.forall_mem_nil _ | (refine' List.forall_mem_cons.mpr ⟨?kqa, ?kqb⟩; (case kqa => k_ne); (case kqb => k_all)) | assumption | exact Apart.ne (by assumption) (by k_mem) | (refine all_app ?_ ?_ <;> k_all) | exact Hi.ne (by assumption) (by walk_at "sub") | exact ne_of_lt' (by walk_at "lts") (by walk_at "sub") | exact OffD.ne' (by assumption) (by walk_at "sub"))
  (k_with "pull" => first | exact Pull.here | (refine' Pull.next ?kqp; (case kqp => walk_at "pull")))
  (k_with "k_mem" => first | ((with_reducible refine mem_appL ?_); ktr_member) | ((with_reducible refine mem_appR ?_); ktr_member) | ((with_reducible refine mem_raw ?_); ktr_member))
  (k_with "split" => first | exact Split.app | (refine' Split.cons ?kqx; (case kqx => walk_at "split")) | exact Split.nil)
  (k_with "apart" => first | assumption | exact Apart.nil | (refine' Apart.cons ?kqa ?kqb; (case kqa => walk_at "notin"); (case kqb => walk_at "apart")) | exact Apart.sub (by assumption) (by walk_at "sub"))
  (k_with "kind" => first | exact rfl | assumption)
  (k_with "call ref" => ((with_reducible show wpAny _ _ (call (Value.ref 63) _) _ _ _); k_here; k_dflt (refine' c_both ?kqB ?kqF ?kqX ?kqN ?kqT ?kqhk ?kqSp ?kqAp ?kqNI ?kqhx ?kqhy ?kqhd ?kqhu ?_; (case kqB => k_asm); (case kqF => k_asm); (case kqX => k_asm); (case kqN => k_asm); (case kqT => k_asm); (case kqhk => walk_at "kind"); (case kqSp => walk_at "split"); (case kqNI => assumption); (case kqAp => walk_at "apart"); (case kqhx => k_mem); (case kqhy => k_mem); (case kqhd => ktr_room); (case kqhu => ktr_units)); intro r' t' nt' h' tk' F' N' Ap' NI'; (have mG' := Net.mG NI'); (have mD' := Net.mdG NI'); (try simp only [List.cons_append, List.nil_append] at N'); (try k_sweep)))
  (k_with "pyIter ref" => ((with_reducible show wpAny _ _ (pyIter (Value.ref _)) (fun it s₂ => LoopAtV _ _ _ _ _ _ _ _ _ it s₂) _ _); refine hold ?_))
  (k_with "UnrEnd" => (refine hold ?_))
  (k_with "eval Name" => ((rename NmMark => mk9); k_here; k_dflt (refine' nameX_L ?kqF ?kqv ?_ ?kqa ?kqb; (case kqa => rfl); (case kqb => rfl); (case kqF => k_asm); (case kqv => walk_at "mlook"); k_whole)))
  (k_with "mlook" => first | (with_reducible assumption) | (refine' look_neg ?kqa ?kqb; (case kqb => decide); (case kqa => walk_at "mlook")) | exact rfl)
  (k_with "subscriptTail Name Name ref int" => ((with_reducible show wpAny _ _ (subscriptTail _ _ (Value.ref _) (Value.int _ _)) _ _ _); k_here; k_dflt (refine' item_nb ?kqN ?kqm ?kqk ?kqh9 ?kqx ?_; (case kqN => k_asm); (case kqm => k_mem); (case kqk => exact rfl); (case kqh9 => assumption); (case kqx => assumption))))
  (k_with "gin" => first | assumption | exact gin_here | (refine' gin_app ?kqp; (case kqp => walk_at "gin")) | (refine' gin_cons ?kqp; (case kqp => walk_at "gin")) | exact gin_nil | (refine' gin_two ?kqa ?kqb; (case kqa => k_mem); (case kqb => walk_at "gin")))
  (k_with "len" => first | assumption | exact rfl)
  (k_with "call builtin:list.append cons nil" => ((with_reducible show wpAny _ _ (call (Value.builtin _) [Value.ref _, Value.int _ _]) _ _ _); k_here; k_dflt (refine' app_nb ?kqNI ?kqhm ?kqF ?kqN ?kqU ?kqhl ?_; (case kqNI => assumption); (case kqhm => k_mem); (case kqF => k_asm); (case kqN => k_asm); (case kqU => k_upd); (case kqhl => first | assumption | omega | (simp only [List.length_append, List.length_replicate]; omega))); intro h' F' N'; (try dsimp only [List.nil_append, List.cons_append] at N'); (try k_sweep)))
  (k_with "call builtin:len cons nil" => ((with_reducible show wpAny _ _ (call (Value.builtin "len") [Value.ref _]) _ _ _); k_here; k_dflt (refine' len_nb ?kqN ?kqm ?kqhn ?kqh8 ?_; (case kqN => k_asm); (case kqm => k_mem); (case kqhn => first | assumption | exact rfl); (case kqh8 => exact sm4 (by assumption)))))
  (k_with "exec For Name Subscript cons nil" => (k_here; (rename Fr _ _ _ _ => lF'); (with_unfolding_all refine' For_invVF lF' ?kqk1 ?kqk2 ?_; (case kqk1 => exact rfl); (case kqk2 => exact rfl); k_whole)))
  (k_with "call builtin:min cons nil" => (k_here; (with_reducible show wpAny _ _ (call (Value.builtin _) [Value.int _ _, Value.int _ _]) _ _ _); k_dflt (refine' min_le_N ?kqab ?kqhh ?kqF ?kqN ?_; (case kqab => exact Int.lt_irrefl _); (case kqhh => exact rfl); (case kqF => k_asm); (case kqN => k_asm)); intro h' tk' F' N'; (try k_sweep)))
  (k_with "binaryOp Mult ref int" => ((with_reducible show wpAny _ _ (binaryOp Operator.Mult (Value.ref _) (Value.int _ _)) _ _ _); k_here; k_dflt (refine' rep_nb fF ?kqF ?kqN ?kqm ?kqk ?kqh ?_; (case kqF => k_asm); (case kqN => k_asm); (case kqm => k_mem); (case kqk => exact rfl); (case kqh => exact sm4 (by assumption))); intro D' h' F' N' l1; (try k_lt l1); (try k_sweep)))
  (k_with "subscriptTail Name Slice ref ref" => (k_here; k_dflt (refine' slice_nb ?kqF ?kqN ?kqa ?kqc ?kqz ?_ ?kqs; (case kqF => k_asm); (case kqN => k_asm); (case kqa => k_mem); (case kqc => assumption); (case kqz => first | assumption | omega); (case kqs => with_unfolding_all rfl)); intro D' h' F' N' l1; (try k_lt l1)))
  (k_with "call ref" => ((with_reducible show wpAny _ _ (call (Value.ref 134) _) _ _ _); k_here; k_dflt (refine' c_addN ?kqB ?kqF ?kqX ?kqN ?kqT ?kqhk ?kqSp ?kqAp ?kqNI ?kql0 ?kql1 ?kqhz ?kqhs ?kqhv ?kqhn ?kqhm ?kqh4 ?kqhd ?kqhu ?_; (case kqB => k_asm); (case kqF => k_asm); (case kqX => k_asm); (case kqN => k_asm); (case kqT => k_asm); (case kqhk => walk_at "kind"); (case kqSp => walk_at "split"); (case kqAp => walk_at "apart"); (case kqhd => ktr_room); (case kqhu => ktr_units); (case kqNI => assumption); (case kql0 => k_mem); (case kql1 => k_mem); (case kqhz => k_mem); (case kqhs => walk_at "gin"); (case kqhv => walk_at "gin"); (case kqhn => assumption); (case kqhm => assumption); (case kqh4 => first | assumption | exact le4)); intro D' lr' nr' rs' rc' uc' Fc' nt' h' tk' F' N' Ap' NI' len' sp' o1' o2'; (have o8' := offD_of o1'); (have mG' := Net.mG NI'); (have mD' := Net.mdG NI'); (try simp only [List.cons_append, List.nil_append] at N'); (try k_sweep)))
  trivial
section
variable {prog : Program} {w : World} {mg mb : Str → Option Value} {mean : ExcName → Option Value} {loose : List Str} {dp un : Nat} {gd : Option (List Code)} {cn : Str} {cs : Scope} {L a : Addr} {ccd : Value} {cl : List (Str × Addr)} {outer : List Env} {A₀ : Around}
  {base h₀ : Heap} {m : Str → Option Value} {s : Shared} {Q E : Value → Shared → Prop} {A : NA} {news own nt : List (Addr × Obj)} {gs : List (Int × RF)} {R : Nat}

theorem c_mulN {lu lv : Addr} {nu nv n : Nat} {us vs : List NB}
    (B : Below A₀ base outer h₀) (F : Fr h₀ L s.heap m) (X : (hd93.heap_1 w.params).In h₀) (N : News h₀ L s.heap news) (T : Top hd93.view_1 loose mean mg mb h₀) (hk : cs.kind = .function)
    (Sp : Split news own nt) (Ap : Apart own nt) (NI : Net prog w A nt gs (R + n * (6 * n))) (hl0 : (lu, listOf (vals us) nu) ∈ own) (hl1 : (lv, listOf (vals vs) nv) ∈ own) (hs : ∀ p ∈ nets us, p ∈ gs) (hv : ∀ p ∈ nets vs, p ∈ gs) (hn : us.length = n) (hm : vs.length = n) (h4 : n ≤ 4)
    (hd : dp + 100 < recursionLimit) (hu : un + 800 < cLine)
    (ret : ∀ lr nr (rs : List NB) nt' h' tk', Fr h₀ L h' m → News h₀ L h' ((lr, listOf (vals rs) nr) :: (own ++ nt')) → Apart ((lr, listOf (vals rs) nr) :: own) nt' → Net prog w A nt' (nets rs ++ gs) R → rs.length = n → (∀ i, num rs i = (num us i * num vs i) % 2 ^ n) → LCg.Off1 lr own → Q (.ref lr) { s with heap := h', toks := tk' }) :
    wpAny (model prog w) (ktrTop dp un gd cn cs L a ccd cl outer) (call (.ref 148) [.ref A.G, .ref lu, .ref lv]) Q E s := by
  obtain rfl := Sp.eq
  clear Sp
  have le4 : Le4 n := h4
  have h100 : us.length ≤ 100 := hn ▸ Nat.le_trans h4 (by decide)
  clear h4
  have mG := NI.mG
  have mD := NI.mdG
  replace NI := NI.zero
  refine wpAny_call ?_
  k_dflt (ktr_enter)
  have mk : NmMark := trivial
  rename Fr _ _ _ (fun y => List.lookup y _) => F1
  replace F1 : Fr _ _ _ (fun y => List.lookup y [(Str.ofString "v", .ref lv), (Str.ofString "u", .ref lu), (Str.ofString "g", .ref A.G)]) := F1
  generalize (Shared.toks s + List.length _) = tk0
  k_steps
  rename News _ _ _ _ => N1
  rename Fr _ _ _ _ => F1
  rename IsRange _ _ _ _ _ _ _ _ => hr
  rename _ < _ ∧ AllLt _ (own ++ nt) => l1
  unfold Hold
  have ru := rng_up (n := n) le4
  replace N1 := news_dropV N1
  have oD : ∀ p ∈ own ++ nt, p.1 ≠ _ := fun p hp => Nat.ne_of_lt (ktn_ltOf l1.2 p hp)
  with_unfolding_all refine iter_rangeUnr (n := n) (by rfl) hr ru.1 ru.2 F1 N1 ?_
  intro I lI
  refine' rr_inv (MInv prog w A R n lu lv us vs _ I own ((0, fF) :: gs)) n ?step ?fin n 0 _ _ (Nat.zero_add _) ?init
  case init => refine' ⟨_, 0, _, nt, (0, fF) :: gs, rfl, ap_new Ap oD, fun p hp => Nat.ne_of_lt (lI p hp), fun p hp => oD p (List.mem_append_left _ hp), NI, nets_rep (.head _), fun _ h => h, List.length_replicate, rfl, rfl, rfl, ?mk4, rfl, fun i => by rw [num_rep]; exact (Nat.zero_mod _).symm⟩; (case mk4 => walk_at "mlook")
  case step =>
    clear N1 F1 hr l1 NI
    rintro j m1 news1 hj ⟨D1, c1, rs, nt1, gs1, rfl, Ap3, hI, hD1, NI3, hrs, hgl, hlen, k1, k2, k3, k4, k5, hsp⟩ t hh tk F3 N3
    rw [Int.zero_add] at F3
    have lj : Le4 j := Nat.le_trans (Nat.le_of_lt hj) le4
    have hj9 : j < 9 := Nat.lt_of_le_of_lt lj (by decide)
    obtain ⟨d, hd9⟩ := getL (us := vs) hm hj
    have hdm := hgl _ (.tail _ (mem_nets hv hd9))
    have n9 : n < 9 := Nat.lt_of_le_of_lt le4 (by decide)
    have NI4 := NI3.le (R' := R + (n - (j + 1)) * (6 * n) + 5 * n + (n - j)) (mul_bud hj)
    clear NI3
    have mG := NI4.mG
    have mD := NI4.mdG
    try simp only [List.cons_append] at N3
    have hnn := nn_sub hj
    k_steps
    rename News _ _ _ _ => N5
    rename Fr _ _ _ _ => F5
    rename _ < _ ∧ _ < _ ∧ _ < _ ∧ _ < _ ∧ AllLt _ (own ++ nt1) => l5
    rename _ < _ ∧ _ < _ ∧ _ < _ ∧ AllLt _ (own ++ nt1) => l4
    unfold Hold
    have et : ((n : Int) - (j : Int)).toNat = n - j := Int.toNat_sub n j
    rw [et] at N5
    have N6 := news_sub (l' := _ :: ((_ :: _ :: _ :: own) ++ nt1)) N5 (List.forall_mem_cons.mpr ⟨.tail _ (.head _), List.forall_mem_cons.mpr ⟨.head _, fun p hp => .tail _ (.tail _ (.tail _ hp))⟩⟩)
    rw [snil (List.replicate j _)] at N6
    have a5 := mul_ap N6 Ap3 (fun q hq => (hI q (.tail _ (List.mem_append_right _ hq))).symm) l4 l5
    have a6 := mul_off N6 l4 l5
    clear N5 l4 l5
    refine iter_listL (by rfl) F5 N6 (.tail _ (.head _)) ?_
    intro I2 lI2
    refine' lst_inv (RwInv prog w A (R + (n - (j + 1)) * (6 * n) + 5 * n) (n - j) lu lv D1 I2 us _ t _ n j d (_ :: _ :: _ :: own) ((0, fF) :: (nets rs ++ gs))) ?keep ?lstep ?lfin _ 0 _ _ (Nat.zero_le _) rfl ?linit
    case linit => refine' ⟨_, 0, [], nt1, gs1, rfl, a5, fun p hp => Nat.ne_of_lt (lI2 p hp), a6, NI4, (fun p h => nomatch h), List.forall_mem_cons.mpr ⟨hgl _ (.head _), gall hrs fun p hp => hgl p (.tail _ hp)⟩, rfl, ?mk1, ?mk2, ?mk3, ?mk4, ?mk5, ?mk6, rfl, fun i => ?q4⟩; (case mk4 => walk_at "mlook"); (case mk1 => walk_at "mlook"); (case mk2 => walk_at "mlook"); (case mk3 => walk_at "mlook"); (case mk5 => walk_at "mlook"); (case mk6 => walk_at "mlook"); (case q4 => rw [List.take_zero]; exact (Nat.mul_zero _).symm)
    case keep => rintro k m3 news3 ⟨W, c3, ys, nt3, gs3, rfl, Ap4, hI4, hW4, NI5, hys, hgl4, hl4, e1, e2, e3, e4, e5, e6, e7, hsp4⟩; exact .tail _ (.head _)
    case lstep =>
      clear N6 F5 a5 a6 lI2 NI4 mG mD
      rintro k m3 news3 v hv9 ⟨W, c3, ys, nt3, gs3, rfl, Ap4, hI4, hW4, NI5, hys, hgl4, hl4, e1, e2, e3, e4, e5, e6, e7, hsp4⟩ it9 hh9 tk9 _ F5 N5
      obtain ⟨b, hb, hk, rfl⟩ := take_at hv9
      have hbm := hgl4 _ (.tail _ (List.mem_append_right _ (mem_nets hs hb)))
      have hdm := hgl4 _ (.tail _ (List.mem_append_right _ (mem_nets hv hd9)))
      have NI6 := NI5.le (R' := R + (n - (j + 1)) * (6 * n) + 5 * n + (n - j - (k + 1)) + 1) (one_sub hk)
      clear NI5
      have mG := NI6.mG
      have mD := NI6.mdG
      try simp only [List.cons_append] at N5
      have hWI := hI4 _ (.head _)
      obtain ⟨w1, hW4a⟩ := List.forall_mem_cons.mp hW4
      obtain ⟨w2, hW4b⟩ := List.forall_mem_cons.mp hW4a
      obtain ⟨w3, w4⟩ := List.forall_mem_cons.mp hW4b
      dsimp only at hWI w1 w2 w3
      have hla := rep_100 Ap4 hl4 hk hj n9
      k_steps
      unfold Hold
      rename News _ _ _ _ => N7
      rename Net _ _ _ _ _ _ => NI7
      rename Apart _ _ => Ap7
      rename Fr _ _ _ _ => F7
      rw [List.append_assoc (List.replicate j _)] at N7
      refine' UnrEnd.intro F7 N7 _ (fun _ h => h) (off_mix hI4 (Ap7 _ (.head _))) ⟨_, _, _, _, _, rfl, ap_obj Ap7.tail, (off_mix hI4 (Ap7 _ (.head _))), hW4, NI7, ?rs, ?gl, ?ln, ?mk1, ?mk2, ?mk3, ?mk4, ?mk5, ?mk6, ?mk7, fun i => ?sp⟩
      case rs => (refine' nets_app ?ra ?rm; (case ra => walk_at "gin"); (case rm => k_mem))
      case gl => walk_at "gin"
      case ln => simp [hl4]
      case mk1 => walk_at "mlook"
      case mk2 => walk_at "mlook"
      case mk3 => walk_at "mlook"
      case mk4 => walk_at "mlook"
      case mk5 => walk_at "mlook"
      case mk6 => walk_at "mlook"
      case mk7 => walk_at "mlook"
      case sp => rw [num_app, hl4, num_take hb]; exact and_step (hsp4 i)
    case lfin =>
      clear N6 F5 a5 a6 lI2 NI4 mG mD
      rintro m3 news3 ⟨W, c3, ys, nt3, gs3, rfl, Ap4, hI4, hW4, NI5, hys, hgl4, hl4, e1, e2, e3, e4, e5, e6, e7, hsp4⟩ hh9 tk9 F5 N5
      dsimp only
      rw [show ((us.take (n - j)).map NB.val).length = n - j by simp [hn]] at hl4 hsp4
      have NI6 := NI5.le (R' := R + (n - (j + 1)) * (6 * n) + 5 * n) (Nat.le_add_right _ _)
      clear NI5
      have mG := NI6.mG
      have mD := NI6.mdG
      have h0 := hgl4 _ (.head _)
      have hrs3 : ∀ p ∈ nets rs, p ∈ gs3 := fun p hp => hgl4 p (.tail _ (List.mem_append_left _ hp))
      have hws3 := rep_nets Ap4 h0 hys
      have hlw := rep_len Ap4 hl4 (Nat.add_sub_cancel' (Nat.le_of_lt hj))
      try simp only [List.cons_append] at N5
      k_steps
      unfold Hold
      rename News _ _ _ _ => N7
      rename Net _ _ _ _ _ _ => NI7
      rename Apart _ _ => Ap7
      rename Fr _ _ _ _ => F7
      rename LCg.Off1 _ _ => o2
      replace o2 := offD_of o2
      refine' UnrEnd.intro F7 N7 (_ :: (own ++ _)) (List.forall_mem_cons.mpr ⟨.tail _ (.tail _ (.tail _ (.tail _ (.head _)))), List.forall_mem_cons.mpr ⟨.tail _ (.head _), fun p hp => .tail _ (.tail _ (.tail _ (.tail _ (.tail _ (.tail _ hp)))))⟩⟩)
        (mul_end hI (o2 _ (.tail _ (.tail _ (.head _)))) (Ap7 _ (.tail _ (.tail _ (.tail _ (.tail _ (.head _))))))) ⟨_, _, _, _, _, rfl, fun x hx => Ap7 x (List.forall_mem_cons.mpr ⟨.tail _ (.head _), fun p hp => .tail _ (.tail _ (.tail _ (.tail _ (.tail _ (.tail _ hp)))))⟩ x hx), mul_end hI (o2 _ (.tail _ (.tail _ (.head _)))) (Ap7 _ (.tail _ (.tail _ (.tail _ (.tail _ (.head _)))))), fun p hp => o2 p (.tail _ (.tail _ (.tail _ (.tail _ hp)))), NI7, ?rs, ?gl, by assumption, ?mk1, ?mk2, ?mk3, ?mk4, rfl, fun i => ?sp⟩
      case rs => walk_at "gin"
      case gl => exact fun p hp => .tail _ (List.mem_append_right _ (hgl4 p (List.forall_mem_cons.mpr ⟨.head _, fun q hq => .tail _ (List.mem_append_right _ hq)⟩ p hp)))
      case mk1 => walk_at "mlook"
      case mk2 => walk_at "mlook"
      case mk3 => walk_at "mlook"
      case mk4 => walk_at "mlook"
      case sp =>
        rename ∀ i, num _ i + 2 ^ n * _ = _ => sp9
        have h := sp9 i
        rw [num_append, num_rep, List.length_replicate, hsp4 i, hsp i, Nat.zero_add] at h
        rw [num_take hd9]
        exact mul_step h (num_ltn (by assumption) i) (num_cut us (n - j) i hn (Nat.sub_le _ _)) (Nat.le_of_lt hj)
  case fin =>
    rintro m1 news1 ⟨D1, c1, rs, nt1, gs1, rfl, Ap3, hI, hD1, NI3, hrs, hgl, hlen, k1, k2, k3, k4, k5, hsp⟩ hh tk F3 N3
    dsimp only
    try simp only [List.cons_append] at N3
    k_steps
    refine ret _ _ _ _ _ _ (by k_asm) (by k_asm) Ap3 (net_fin NI3 (Nat.le_add_right _ _) (gall hrs fun p hp => hgl p (.tail _ hp))) hlen (fun i => ?_) (off1_of hD1)
    have h := hsp i
    rw [List.take_of_length_le (Nat.le_of_eq hm)] at h
    exact h

end
end Mine93
-- Zon
namespace Mine93
theorem one_pred {n : Nat} (h : 1 ≤ n) : (n : Int) - 1 = ((n - 1 : Nat) : Int) := by omega
theorem rep_le {k : Nat} {t : Tok} (h : k ≤ 3) : (List.replicate k (⟨0, t, fF⟩ : NB)).length ≤ 3 := by rw [List.length_replicate]; exact h
theorem one_num {k i : Nat} {t u : Tok} : num (([⟨1, u, fT⟩] : List NB) ++ List.replicate k ⟨0, t, fF⟩) i = 1 := by
  rw [num_append, num_rep]; rfl
theorem one_len {k n : Nat} {t u : Tok} (h : 1 ≤ n) (e : k = n - 1) : (([⟨1, u, fT⟩] : List NB) ++ List.replicate k (⟨0, t, fF⟩ : NB)).length = n := by simp; omega
theorem one_nets {k : Nat} {t u : Tok} {gs : List (Int × RF)} : ∀ p ∈ nets (([⟨1, u, fT⟩] : List NB) ++ List.replicate k ⟨0, t, fF⟩) ++ gs, p ∈ (0, fF) :: (1, fT) :: gs :=
  fun p hp => by
    rcases List.mem_append.mp hp with hp | hp
    · rcases List.mem_cons.mp hp with rfl | hp
      · exact .tail _ (.head _)
      · exact nets_rep (.head _) p hp
    · exact .tail _ (.tail _ hp)
theorem kwZon0 : True := by
  k_with_none
  (k_with "room" => first | exact Nat.le_of_ble_eq_true rfl | exact room2 (by assumption) (Nat.le_of_ble_eq_true rfl) | exact room3 (by assumption) (Nat.le_of_ble_eq_true rfl) | exact room1 (by assumption))
  (k_with "units" => first | exact Nat.le_of_ble_eq_true rfl | exact room2 (by assumption) (Nat.le_of_ble_eq_true rfl) | exact room3 (by assumption) (Nat.le_of_ble_eq_true rfl) | exact room1 (by assumption))
  (k_with "splits" => first | exact Split.app | (refine' Split.cons ?kqx; (case kqx => walk_at "splits")) | exact Split.nil)
  (k_with "sub" => ((repeat (first | exact sub_refl | exact sub_appL | exact sub_appR | (refine sub_cons ?kqmem ?_; (case kqmem => k_mem)) | refine sub_tail ?_)); done))
  (k_with "notin" => first | assumption | exact Apart.at (by assumption) (by k_mem) | exact OffM.notI (by assumption) (by walk_at "sub") | exact OffM.notC (by assumption) (by walk_at "sub") | exact OffM.notD (by assumption) (by walk_at "sub") | exact Hi.not (by assumption) (by walk_at "sub") | exact OffD.not (by assumption) (by walk_at "sub") | exact not_of_lt (by walk_at "lts") (by walk_at "sub"))
  (k_with "k_ne" => ((try dsimp only); first | assumption | exact Ne.symm (by assumption) | (refine' OffD.at ?kqh ?kqm; (case kqh => assumption); (case kqm => walk_at "ina")) | (refine' OffD.at' ?kqh ?kqm; (case kqh => assumption); (case kqm => walk_at "ina")) | exact ne_lt' (by assumption) | exact ne_gt' (by assumption) | fail))
  (k_with "k_all" => first | exact List.forall_mem_nil _ | (refine' List.forall_mem_cons.mpr ⟨?kqa, ?kqb⟩; (case kqa => k_ne); (case kqb => k_all)) | assumption | exact Apart.ne (by assumption) (by k_mem) | (refine all_app ?_ ?_ <;> k_all) | exact Hi.ne (by assumption) (by walk_at "sub") | exact ne_of_lt' (by walk_at "lts") (by walk_at "sub") | exact OffD.ne' (by assumption) (by walk_at "sub"))
  (k_with "pull" => first | exact Pull.here | (refine' Pull.next ?kqp; (case kqp => walk_at "pull")))
  (k_with "k_mem" => first | ((with_reducible refine mem_appL ?_); ktr_member) | ((with_reducible refine mem_appR ?_); ktr_member) | ((with_reducible refine mem_raw ?_); ktr_member))
  (k_with "split" => first | exact Split.app | (refine' Split.cons ?kqx; (case kqx => walk_at "split")) | exact Split.nil)
  (k_with "apart" => first | assumption | exact Apart.nil | (refine' Apart.cons ?kqa ?kqb; (case kqa => walk_at "notin"); (case kqb => walk_at "apart")) | exact Apart.sub (by assumption) (by walk_at "sub"))
  (k_with "kind" => first | exact rfl | assumption)
  (k_with "pyIter ref" => ((with_reducible show wpAny _ _ (pyIter (Value.ref _)) (fun it s₂ => LoopAtV _ _ _ _ _ _ _ _ _ it s₂) _ _); refine hold ?_))
  (k_with "UnrEnd" => (refine hold ?_))
  (k_with "eval Name" => ((rename NmMark => mk9); k_here; k_dflt (refine' nameX_L ?kqF ?kqv ?_ ?kqa ?kqb; (case kqa => rfl); (case kqb => rfl); (case kqF => k_asm); (case kqv => walk_at "mlook"); k_whole)))
  (k_with "mlook" => first | (with_reducible assumption) | (refine' look_neg ?kqa ?kqb; (case kqb => decide); (case kqa => walk_at "mlook")) | exact rfl)
  (k_with "subscriptTail Name Name ref int" => ((with_reducible show wpAny _ _ (subscriptTail _ _ (Value.ref _) (Value.int _ _)) _ _ _); k_here; k_dflt (refine' item_nb ?kqN ?kqm ?kqk ?kqh9 ?kqx ?_; (case kqN => k_asm); (case kqm => k_mem); (case kqk => exact rfl); (case kqh9 => assumption); (case kqx => assumption))))
  (k_with "gin" => first | assumption | exact gin_here | (refine' gin_app ?kqp; (case kqp => walk_at "gin")) | (refine' gin_cons ?kqp; (case kqp => walk_at "gin")) | exact gin_nil | (refine' gin_two ?kqa ?kqb; (case kqa => k_mem); (case kqb => walk_at "gin")))
  (k_with "len" => first | assumption | exact rfl)
  (k_with "call builtin:list.append cons nil" => ((with_reducible show wpAny _ _ (call (Value.builtin _) [Value.ref _, Value.int _ _]) _ _ _); k_here; k_dflt (refine' app_nb ?kqNI ?kqhm ?kqF ?kqN ?kqU ?kqhl ?_; (case kqNI => assumption); (case kqhm => k_mem); (case kqF => k_asm); (case kqN => k_asm); (case kqU => k_upd); (case kqhl => first | assumption | omega | (simp only [List.length_append, List.length_replicate]; omega))); intro h' F' N'; (try dsimp only [List.nil_append, List.cons_append] at N'); (try k_sweep)))
  (k_with "call builtin:len cons nil" => ((with_reducible show wpAny _ _ (call (Value.builtin "len") [Value.ref _]) _ _ _); k_here; k_dflt (refine' len_nb ?kqN ?kqm ?kqhn ?kqh8 ?_; (case kqN => k_asm); (case kqm => k_mem); (case kqhn => first | assumption | exact rfl); (case kqh8 => exact sm4 (by assumption)))))
  (k_with "binaryOp Mult ref int" => ((with_reducible show wpAny _ _ (binaryOp Operator.Mult (Value.ref _) (Value.int _ _)) _ _ _); k_here; k_dflt (refine' rep_nb fF ?kqF ?kqN ?kqm ?kqk ?kqh ?_; (case kqF => k_asm); (case kqN => k_asm); (case kqm => k_mem); (case kqk => assumption); (case kqh => exact sm4 (by assumption))); intro D' h' F' N' l1; (try k_lt l1)))
  (k_with "binaryOp Add ref ref" => ((with_reducible show wpAny _ _ (binaryOp _ (Value.ref _) (Value.ref _)) _ _ _); k_here; k_dflt (refine' add_nb (us := [⟨_, _, fT⟩]) ?kqF ?kqN ?kqa ?kqb ?kqc ?kqd ?_; (case kqF => k_asm); (case kqN => k_asm); (case kqa => k_mem); (case kqb => k_mem); (case kqc => exact Nat.le_add_left 1 2); (case kqd => exact rep_le (by assumption))); intro D' h' F' N' l1))
  trivial
section
variable {prog : Program} {w : World} {mg mb : Str → Option Value} {mean : ExcName → Option Value} {loose : List Str} {dp un : Nat} {gd : Option (List Code)} {cn : Str} {cs : Scope} {L a : Addr} {ccd : Value} {cl : List (Str × Addr)} {outer : List Env} {A₀ : Around}
  {base h₀ : Heap} {m : Str → Option Value} {s : Shared} {Q E : Value → Shared → Prop} {A : NA} {news own nt : List (Addr × Obj)} {gs : List (Int × RF)} {R : Nat}

theorem c_oneN {tw : Tok} {n : Nat}
    (B : Below A₀ base outer h₀) (F : Fr h₀ L s.heap m) (X : (hd93.heap_1 w.params).In h₀) (N : News h₀ L s.heap news) (T : Top hd93.view_1 loose mean mg mb h₀) (hk : cs.kind = .function)
    (Sp : Split news own nt) (Ap : Apart own nt) (NI : Net prog w A nt gs R) (h1 : 1 ≤ n) (h4 : n ≤ 4)
    (hd : dp + 60 < recursionLimit) (hu : un + 480 < cLine)
    (ret : ∀ lr nr (rs : List NB) nt' h' tk', Fr h₀ L h' m → News h₀ L h' ((lr, listOf (vals rs) nr) :: (own ++ nt')) → Apart ((lr, listOf (vals rs) nr) :: own) nt' → Net prog w A nt' (nets rs ++ gs) R → rs.length = n → (∀ i, num rs i = 1) → LCg.Off1 lr own → Q (.ref lr) { s with heap := h', toks := tk' }) :
    wpAny (model prog w) (ktrTop dp un gd cn cs L a ccd cl outer) (call (.ref 155) [.int (n : Int) tw]) Q E s := by
  obtain rfl := Sp.eq
  clear Sp
  have e1 := one_pred h1
  have l3 : n - 1 ≤ 3 := by omega
  have l4 : Le4 (n - 1) := Nat.le_trans l3 (by decide)
  refine wpAny_call ?_
  k_dflt (ktr_enter)
  rename Fr _ _ _ (fun y => List.lookup y _) => F1
  replace F1 : Fr _ _ _ (fun y => List.lookup y [(Str.ofString "width", .int (n : Int) tw)]) := F1
  generalize (Shared.toks s + List.length _) = tk0
  k_steps
  have l9 : ∀ p ∈ own ++ nt, p.1 ≠ _ := fun p hp => Nat.ne_of_lt (l1 p (.tail _ (.tail _ (.tail _ hp))))
  rename News h₀ L _ (_ :: _ :: _ :: _ :: (own ++ nt)) => N9
  refine ret _ _ _ nt _ _ (by k_asm) (news_sub (l' := _ :: (own ++ nt)) N9 (List.forall_mem_cons.mpr ⟨.head _, fun p hp => .tail _ (.tail _ (.tail _ (.tail _ hp)))⟩)) (ap_new Ap l9) (NI.one.zero.gs_sub one_nets) ?_ (fun i => ?_) (off1_of fun p hp => l9 p (List.mem_append_left _ hp))
  · exact one_len h1 rfl
  · exact one_num

end
end Mine93
-- Zus
namespace Mine93
inductive UsInv (lv : Addr) (mm : Nat) (vs : List NB) (news0 : List (Addr × Obj)) (k : Nat) (m : Str → Option Value) (news : List (Addr × Obj)) : Prop
  | mk (t : Tok) : news0 = news → k ≤ mm → (∀ i, num (vs.take k) i = num vs i) → m (Str.ofString "v") = some (.ref lv) → m (Str.ofString "length") = some (.int (k : Int) t) → UsInv lv mm vs news0 k m news
theorem pred_int (k : Nat) : ((k + 1 : Nat) : Int) - 1 = (k : Int) := by omega
theorem num_used {vs : List NB} {k i : Nat} {b : NB} (hb : vs[k]? = some b) (hf : b.f = fF) (h : num (vs.take (k + 1)) i = num vs i) : num (vs.take k) i = num vs i := by
  rw [num_take hb, hf] at h
  simpa [fF] using h
theorem kwZus0 : True := by
  k_with_none
  (k_with "room" => first | exact Nat.le_of_ble_eq_true rfl | exact room2 (by assumption) (Nat.le_of_ble_eq_true rfl) | exact room3 (by assumption) (Nat.le_of_ble_eq_true rfl) | exact room1 (by assumption))
  (k_with "units" => first | exact Nat.le_of_ble_eq_true rfl | exact room2 (by assumption) (Nat.le_of_ble_eq_true rfl) | exact room3 (by assumption) (Nat.le_of_ble_eq_true rfl) | exact room1 (by assumption))
  (k_with "splits" => first | exact Split.app | (refine' Split.cons ?kqx; (case kqx => walk_at "splits")) | exact Split.nil)
  (k_with "sub" => ((repeat (first | exact sub_refl | exact sub_appL | exact sub_appR | (refine sub_cons ?kqmem ?_; (case kqmem => k_mem)) | refine sub_tail ?_)); done))
  (k_with "notin" => first | assumption | exact Apart.at (by assumption) (by k_mem) | exact OffM.notI (by assumption) (by walk_at "sub") | exact OffM.notC (by assumption) (by walk_at "sub") | exact OffM.notD (by assumption) (by walk_at "sub") | exact Hi.not (by assumption) (by walk_at "sub") | exact OffD.not (by assumption) (by walk_at "sub") | exact not_of_lt (by walk_at "lts") (by walk_at "sub"))
  (k_with "k_ne" => ((try dsimp only); first | assumption | exact Ne.symm (by assumption) | (refine' OffD.at ?kqh ?kqm; (case kqh => assumption); (case kqm => walk_at "ina")) | (refine' OffD.at' ?kqh ?kqm; (case kqh => assumption); (case kqm => walk_at "ina")) | exact ne_lt' (by assumption) | exact ne_gt' (by assumption) | fail))
  (k_with "k_all" => first | exact List.forall_mem_nil _ | (refine' List.forall_mem_cons.mpr ⟨?kqa, ?kqb⟩; (case kqa => k_ne); (case kqb => k_all)) | assumption | exact Apart.ne (by assumption) (by k_mem) | (refine all_app ?_ ?_ <;> k_all) | exact Hi.ne (by assumption) (by walk_at "sub") | exact ne_of_lt' (by walk_at "lts") (by walk_at "sub") | exact OffD.ne' (by assumption) (by walk_at "sub"))
  (k_with "pull" => first | exact Pull.here | (refine' Pull.next ?kqp; (case kqp => walk_at "pull")))
  (k_with "k_mem" => first | ((with_reducible refine mem_appL ?_); ktr_member) | ((with_reducible refine mem_appR ?_); ktr_member) | ((with_reducible refine mem_raw ?_); ktr_member))
  (k_with "split" => first | exact Split.app | (refine' Split.cons ?kqx; (case kqx => walk_at "split")) | exact Split.nil)
  (k_with "apart" => first | assumption | exact Apart.nil | (refine' Apart.cons ?kqa ?kqb; (case kqa => walk_at "notin"); (case kqb => walk_at "apart")) | exact Apart.sub (by assumption) (by walk_at "sub"))
  (k_with "kind" => first | exact rfl | assumption)
  (k_with "pyIter ref" => ((with_reducible show wpAny _ _ (pyIter (Value.ref _)) (fun it s₂ => LoopAtV _ _ _ _ _ _ _ _ _ it s₂) _ _); refine hold ?_))
  (k_with "UnrEnd" => (refine hold ?_))
  (k_with "eval Name" => ((rename NmMark => mk9); k_here; k_dflt (refine' nameX_L ?kqF ?kqv ?_ ?kqa ?kqb; (case kqa => rfl); (case kqb => rfl); (case kqF => k_asm); (case kqv => walk_at "mlook"); k_whole)))
  (k_with "mlook" => first | (with_reducible assumption) | (refine' look_neg ?kqa ?kqb; (case kqb => decide); (case kqa => walk_at "mlook")) | exact rfl)
  (k_with "subscriptTail Name Name ref int" => ((with_reducible show wpAny _ _ (subscriptTail _ _ (Value.ref _) (Value.int _ _)) _ _ _); k_here; k_dflt (refine' item_nb ?kqN ?kqm ?kqk ?kqh9 ?kqx ?_; (case kqN => k_asm); (case kqm => k_mem); (case kqk => exact rfl); (case kqh9 => assumption); (case kqx => assumption))))
  (k_with "gin" => first | assumption | exact gin_here | (refine' gin_app ?kqp; (case kqp => walk_at "gin")) | (refine' gin_cons ?kqp; (case kqp => walk_at "gin")) | exact gin_nil | (refine' gin_two ?kqa ?kqb; (case kqa => k_mem); (case kqb => walk_at "gin")))
  (k_with "len" => first | assumption | exact rfl)
  (k_with "call builtin:list.append cons nil" => ((with_reducible show wpAny _ _ (call (Value.builtin _) [Value.ref _, Value.int _ _]) _ _ _); k_here; k_dflt (refine' app_nb ?kqNI ?kqhm ?kqF ?kqN ?kqU ?kqhl ?_; (case kqNI => assumption); (case kqhm => k_mem); (case kqF => k_asm); (case kqN => k_asm); (case kqU => k_upd); (case kqhl => first | assumption | omega | (simp only [List.length_append, List.length_replicate]; omega))); intro h' F' N'; (try dsimp only [List.nil_append, List.cons_append] at N'); (try k_sweep)))
  (k_with "call builtin:len cons nil" => ((with_reducible show wpAny _ _ (call (Value.builtin "len") [Value.ref _]) _ _ _); k_here; k_dflt (refine' len_nb ?kqN ?kqm ?kqhn ?kqh8 ?_; (case kqN => k_asm); (case kqm => k_mem); (case kqhn => first | assumption | exact rfl); (case kqh8 => exact sm4 (by assumption)))))
  (k_with "loadName" => (k_here; k_dflt (refine' ldn ?kqk1 ?kqk2 ?_; (case kqk1 => k_asm); (case kqk2 => walk_at "mlook"))))
  (k_with "exec While BoolOp cons nil" => (refine hold ?_))
  (k_with "WhlRest" => (refine hold ?_))
  (k_with "subscriptTail Name BinOp ref int" => ((with_reducible show wpAny _ _ (subscriptTail _ _ (Value.ref _) (Value.int _ _)) _ _ _); k_here; k_dflt (refine' item_nb ?kqN ?kqm ?kqk ?kqh9 ?kqx ?_; (case kqN => k_asm); (case kqm => k_mem); (case kqk => exact pred_int _); (case kqh9 => assumption); (case kqx => assumption))))
  trivial
section
variable {prog : Program} {w : World} {mg mb : Str → Option Value} {mean : ExcName → Option Value} {loose : List Str} {dp un : Nat} {gd : Option (List Code)} {cn : Str} {cs : Scope} {L a : Addr} {ccd : Value} {cl : List (Str × Addr)} {outer : List Env} {A₀ : Around}
  {base h₀ : Heap} {m : Str → Option Value} {s : Shared} {Q E : Value → Shared → Prop} {A : NA} {news own nt : List (Addr × Obj)} {gs : List (Int × RF)} {R : Nat}

theorem c_usedN {lv : Addr} {nv mm : Nat} {vs : List NB}
    (B : Below A₀ base outer h₀) (F : Fr h₀ L s.heap m) (X : (hd93.heap_1 w.params).In h₀) (N : News h₀ L s.heap news) (T : Top hd93.view_1 loose mean mg mb h₀) (hk : cs.kind = .function)
    (hl : (lv, listOf (vals vs) nv) ∈ news) (hm : vs.length = mm) (hm3 : mm ≤ 3) (hz : ∀ b ∈ vs, b.n = 0 → b.f = fF)
    (hd : dp + 60 < recursionLimit) (hu : un + 480 < cLine)
    (ret : ∀ (k : Nat) t h' tk', k ≤ mm → (∀ i, num (vs.take k) i = num vs i) → Fr h₀ L h' m → News h₀ L h' news → Q (.int (k : Int) t) { s with heap := h', toks := tk' }) :
    wpAny (model prog w) (ktrTop dp un gd cn cs L a ccd cl outer) (call (.ref 162) [.ref lv]) Q E s := by
  have le4 : Le4 mm := Nat.le_trans hm3 (by decide)
  clear hm3
  refine wpAny_call ?_
  k_dflt (ktr_enter)
  rename Fr _ _ _ (fun y => List.lookup y _) => F1
  replace F1 : Fr _ _ _ (fun y => List.lookup y [(Str.ofString "v", .ref lv)]) := F1
  generalize (Shared.toks s + List.length _) = tk0
  k_steps
  rename News _ _ _ _ => N1
  rename Fr _ _ _ _ => F1
  unfold Hold
  refine whl_start 0 ?_
  refine whl_ind (UsInv lv mm vs news) ?step mm _ _ ?init _ _ F1 N1
  case init => refine' ⟨_, rfl, Nat.le_refl _, fun i => ?i1, rfl, ?i2⟩; (case i2 => walk_at "mlook"); (case i1 => rw [List.take_of_length_le (Nat.le_of_eq hm)])
  case step =>
    clear F1 N1
    rintro k m1 news1 ih ⟨t1, rfl, hkm, hnum, k1, k2⟩ h1 tk1 F3 N3
    have mk : NmMark := trivial
    refine whl_turn (by first | passes_own | with_unfolding_all passes_own) ?_
    cases k with
    | zero => k_steps; exact ret 0 _ _ _ (Nat.zero_le _) hnum (by k_asm) (by k_asm)
    | succ k =>
      obtain ⟨b, hb⟩ := getL (us := vs) hm (show k < mm from hkm)
      have hj9 : k < 9 := Nat.lt_of_lt_of_le hkm (Nat.le_trans le4 (by decide))
      k_steps
      · unfold Hold
        rename Fr _ _ _ _ => F5
        rename News _ _ _ _ => N5
        have hb0 : b.n = 0 := by assumption
        rw [pred_int] at F5
        refine' ih k (Nat.lt_succ_self k) _ _ ⟨_, rfl, Nat.le_of_succ_le hkm, fun i => num_used hb (hz b (List.mem_of_getElem? hb) hb0) (hnum i), ?mk1, ?mk2⟩ _ _ F5 N5
        case mk2 => walk_at "mlook"
        case mk1 => walk_at "mlook"
      · exact ret (k + 1) _ _ _ hkm hnum (by k_asm) (by k_asm)

end
end Mine93
-- Zra
namespace Mine93
def Le3 (n : Nat) : Prop := n ≤ 3
theorem ra_end {I a b x y : Addr} {o3 o4 : Obj} {own nt nt' : List (Addr × Obj)} (h : ∀ q ∈ (x, o3) :: (y, o4) :: (own ++ nt), q.1 ≠ I) (ha : I ≠ a) (hb : I ≠ b) (k : ∀ q ∈ nt', I ≠ q.1) : ∀ o1 o2, ∀ q ∈ (a, o1) :: (b, o2) :: (own ++ nt'), q.1 ≠ I := fun o1 o2 q hq => by
  rcases List.mem_cons.mp hq with rfl | hq
  · exact ha.symm
  rcases List.mem_cons.mp hq with rfl | hq
  · exact hb.symm
  rcases List.mem_append.mp hq with hq | hq
  · exact h q (.tail _ (.tail _ (List.mem_append_left _ hq)))
  · exact (k q hq).symm
inductive RaInv (prog : Program) (w : World) (A : NA) (R n k : Nat) (lu lv : Addr) (us vs : List NB) (tl : Tok) (I : Addr) (own : List (Addr × Obj)) (gl : List (Int × RF)) (j : Nat) (m : Str → Option Value) (news : List (Addr × Obj)) : Prop
  | mk (Dr Ds : Addr) (cr cq : Nat) (rs qs : List NB) (nt : List (Addr × Obj)) (gs : List (Int × RF)) : news = (Ds, listOf (vals qs) cq) :: (Dr, listOf (vals rs) cr) :: (own ++ nt) → Apart ((Ds, listOf (vals qs) cq) :: (Dr, listOf (vals rs) cr) :: own) nt → (∀ p ∈ news, p.1 ≠ I) → (∀ p ∈ own, p.1 ≠ Dr) →
    Net prog w A nt gs (R + (k - j) * (n * (6 * n) + 3 * n + n * (6 * n))) → (∀ p ∈ nets rs, p ∈ gs) → (∀ p ∈ nets qs, p ∈ gs) → (∀ p ∈ gl, p ∈ gs) → rs.length = n → qs.length = n →
    m (Str.ofString "g") = some (.ref A.G) → m (Str.ofString "u") = some (.ref lu) → m (Str.ofString "v") = some (.ref lv) → m (Str.ofString "result") = some (.ref Dr) → m (Str.ofString "square") = some (.ref Ds) → m (Str.ofString "length") = some (.int (k : Int) tl) →
    (∀ i, num rs i = num us i ^ num (vs.take j) i % 2 ^ n) → (∀ i, j < k → num qs i = num us i ^ 2 ^ j % 2 ^ n) → RaInv prog w A R n k lu lv us vs tl I own gl j m news
theorem ra_bud {R n k j : Nat} (h : j < k) : R + (k - (j + 1)) * (n * (6 * n) + 3 * n + n * (6 * n)) + n * (6 * n) + 3 * n + n * (6 * n) ≤ R + (k - j) * (n * (6 * n) + 3 * n + n * (6 * n)) := by
  generalize n * (6 * n) = B
  have e : (k - j) * (B + 3 * n + B) = (k - (j + 1)) * (B + 3 * n + B) + (B + 3 * n + B) := by rw [show k - j = (k - (j + 1)) + 1 by omega, Nat.succ_mul]
  rw [e]
  generalize (k - (j + 1)) * (B + 3 * n + B) = C
  omega
theorem ra_bud0 {R n k mm : Nat} (h : k ≤ mm) : R + (k - 0) * (n * (6 * n) + 3 * n + n * (6 * n)) ≤ R + mm * (n * (6 * n) + 3 * n + n * (6 * n)) := Nat.add_le_add_left (Nat.mul_le_mul_right _ h) _
theorem kwZra0 : True := by
  k_with_none
  (k_with "room" => first | exact Nat.le_of_ble_eq_true rfl | exact room2 (by assumption) (Nat.le_of_ble_eq_true rfl) | exact room3 (by assumption) (Nat.le_of_ble_eq_true rfl) | exact room1 (by assumption))
  (k_with "units" => first | exact Nat.le_of_ble_eq_true rfl | exact room2 (by assumption) (Nat.le_of_ble_eq_true rfl) | exact room3 (by assumption) (Nat.le_of_ble_eq_true rfl) | exact room1 (by assumption))
  (k_with "splits" => first | exact Split.app | (refine' Split.cons ?kqx; (case kqx => walk_at "splits")) | exact Split.nil)
  (k_with "sub" => ((repeat (first | exact sub_refl | exact sub_appL | exact sub_appR | (refine sub_cons ?kqmem ?_; (case kqmem => k_mem)) | refine sub_tail ?_)); done))
  (k_with "notin" => first | assumption | exact Apart.at (by assumption) (by k_mem) | exact OffM.notI (by assumption) (by walk_at "sub") | exact OffM.notC (by assumption) (by walk_at "sub") | exact OffM.notD (by assumption) (by walk_at "sub") | exact Hi.not (by assumption) (by walk_at "sub") | exact OffD.not (by assumption) (by walk_at "sub") | exact not_of_lt (by walk_at "lts") (by walk_at "sub"))
  (k_with "k_ne" => ((try dsimp only); first | assumption | exact Ne.symm (by assumption) | (refine' OffD.at ?kqh ?kqm; (case kqh => assumption); (case kqm => walk_at "ina")) | (refine' OffD.at' ?kqh ?kqm; (case kqh => assumption); (case kqm => walk_at "ina")) | exact ne_lt' (by assumption) | exact ne_gt' (by assumption) | fail))
  (k_with "k_all" => first | exact List.forall_mem_nil _ | (refine' List.forall_mem_cons.mpr ⟨?kqa, ?kqb⟩; (case kqa => k_ne); (case kqb => k_all)) | assumption | exact Apart.ne (by assumption) (by k_mem) | (refine all_app ?_ ?_ <;> k_all) | exact Hi.ne (by assumption) (by walk_at "sub") | exact ne_of_lt' (by walk_at "lts") (by walk_at "sub") | exact OffD.ne' (by assumption) (by walk_at "sub"))
  (k_with "pull" => first | exact Pull.here | (refine' Pull.next ?kqp; (case kqp => walk_at "pull")))
  (k_with "k_mem" => first | ((with_reducible refine mem_appL ?_); ktr_member) | ((with_reducible refine mem_appR ?_); ktr_member) | ((with_reducible refine mem_raw ?_); ktr_member))
  (k_with "split" => first | exact Split.app | (refine' Split.cons ?kqx; (case kqx => walk_at "split")) | exact Split.nil)
  (k_with "apart" => first | assumption | exact Apart.nil | (refine' Apart.cons ?kqa ?kqb; (case kqa => walk_at "notin"); (case kqb => walk_at "apart")) | exact Apart.sub (by assumption) (by walk_at "sub"))
  (k_with "kind" => first | exact rfl | assumption)
  (k_with "pyIter ref" => ((with_reducible show wpAny _ _ (pyIter (Value.ref _)) (fun it s₂ => LoopAtV _ _ _ _ _ _ _ _ _ it s₂) _ _); refine hold ?_))
  (k_with "UnrEnd" => (refine hold ?_))
  (k_with "eval Name" => ((rename NmMark => mk9); k_here; k_dflt (refine' nameX_L ?kqF ?kqv ?_ ?kqa ?kqb; (case kqa => rfl); (case kqb => rfl); (case kqF => k_asm); (case kqv => walk_at "mlook"); k_whole)))
  (k_with "mlook" => first | (with_reducible assumption) | (refine' look_neg ?kqa ?kqb; (case kqb => decide); (case kqa => walk_at "mlook")) | exact rfl)
  (k_with "subscriptTail Name Name ref int" => ((with_reducible show wpAny _ _ (subscriptTail _ _ (Value.ref _) (Value.int _ _)) _ _ _); k_here; k_dflt (refine' item_nb ?kqN ?kqm ?kqk ?kqh9 ?kqx ?_; (case kqN => k_asm); (case kqm => k_mem); (case kqk => exact rfl); (case kqh9 => assumption); (case kqx => assumption))))
  (k_with "gin" => first | assumption | exact gin_here | (refine' gin_app ?kqp; (case kqp => walk_at "gin")) | (refine' gin_cons ?kqp; (case kqp => walk_at "gin")) | exact gin_nil | (refine' gin_two ?kqa ?kqb; (case kqa => k_mem); (case kqb => walk_at "gin")))
  (k_with "len" => first | assumption | exact rfl)
  (k_with "call builtin:list.append cons nil" => ((with_reducible show wpAny _ _ (call (Value.builtin _) [Value.ref _, Value.int _ _]) _ _ _); k_here; k_dflt (refine' app_nb ?kqNI ?kqhm ?kqF ?kqN ?kqU ?kqhl ?_; (case kqNI => assumption); (case kqhm => k_mem); (case kqF => k_asm); (case kqN => k_asm); (case kqU => k_upd); (case kqhl => first | assumption | omega | (simp only [List.length_append, List.length_replicate]; omega))); intro h' F' N'; (try dsimp only [List.nil_append, List.cons_append] at N'); (try k_sweep)))
  (k_with "call builtin:len cons nil" => ((with_reducible show wpAny _ _ (call (Value.builtin "len") [Value.ref _]) _ _ _); k_here; k_dflt (refine' len_nb ?kqN ?kqm ?kqhn ?kqh8 ?_; (case kqN => k_asm); (case kqm => k_mem); (case kqhn => first | assumption | exact rfl); (case kqh8 => exact sm4 (by assumption)))))
  (k_with "call ref" => ((with_reducible show wpAny _ _ (call (Value.ref 155) _) _ _ _); k_here; k_dflt (refine' c_oneN ?kqB ?kqF ?kqX ?kqN ?kqT ?kqhk ?kqSp ?kqAp ?kqNI ?kqh1 ?kqh4 ?kqhd ?kqhu ?_; (case kqB => k_asm); (case kqF => k_asm); (case kqX => k_asm); (case kqN => k_asm); (case kqT => k_asm); (case kqhk => walk_at "kind"); (case kqSp => walk_at "split"); (case kqAp => walk_at "apart"); (case kqhd => ktr_room); (case kqhu => ktr_units); (case kqNI => assumption); (case kqh1 => assumption); (case kqh4 => first | assumption | exact le4)); intro lr' nr' rs' nt' h' tk' F' N' Ap' NI' len' sp' o1'; (have o8' := offD_of o1'); (have mG' := Net.mG NI'); (have mD' := Net.mdG NI'); (try simp only [List.cons_append, List.nil_append] at N'); (try k_sweep)))
  (k_with "call ref" => ((with_reducible show wpAny _ _ (call (Value.ref 148) _) _ _ _); k_here; k_dflt (refine' c_mulN ?kqB ?kqF ?kqX ?kqN ?kqT ?kqhk ?kqSp ?kqAp ?kqNI ?kql0 ?kql1 ?kqhs ?kqhv ?kqhn ?kqhm ?kqh4 ?kqhd ?kqhu ?_; (case kqB => k_asm); (case kqF => k_asm); (case kqX => k_asm); (case kqN => k_asm); (case kqT => k_asm); (case kqhk => walk_at "kind"); (case kqSp => walk_at "split"); (case kqAp => walk_at "apart"); (case kqhd => ktr_room); (case kqhu => ktr_units); (case kqNI => assumption); (case kql0 => k_mem); (case kql1 => k_mem); (case kqhs => walk_at "gin"); (case kqhv => walk_at "gin"); (case kqhn => assumption); (case kqhm => assumption); (case kqh4 => first | assumption | exact le4)); intro lr' nr' rs' nt' h' tk' F' N' Ap' NI' len' sp' o1'; (have o8' := offD_of o1'); (have mG' := Net.mG NI'); (have mD' := Net.mdG NI'); (try simp only [List.cons_append, List.nil_append] at N'); (try k_sweep)))
  (k_with "call ref" => ((with_reducible show wpAny _ _ (call (Value.ref 108) _) _ _ _); k_here; k_dflt (refine' c_wmuxN ?kqB ?kqF ?kqX ?kqN ?kqT ?kqhk ?kqSp ?kqAp ?kqNI ?kql0 ?kql1 ?kqhz ?kqhs ?kqhv ?kqhn ?kqhm ?kqh4 ?kqhd ?kqhu ?_; (case kqB => k_asm); (case kqF => k_asm); (case kqX => k_asm); (case kqN => k_asm); (case kqT => k_asm); (case kqhk => walk_at "kind"); (case kqSp => walk_at "split"); (case kqAp => walk_at "apart"); (case kqhd => ktr_room); (case kqhu => ktr_units); (case kqNI => assumption); (case kql0 => k_mem); (case kql1 => k_mem); (case kqhz => k_mem); (case kqhs => walk_at "gin"); (case kqhv => walk_at "gin"); (case kqhn => assumption); (case kqhm => assumption); (case kqh4 => first | assumption | exact le4)); intro lr' nr' rs' nt' h' tk' F' N' Ap' NI' len' sp' o1'; (have o8' := offD_of o1'); (have mG' := Net.mG NI'); (have mD' := Net.mdG NI'); (try simp only [List.cons_append, List.nil_append] at N'); (try k_sweep)))
  (k_with "call ref" => ((with_reducible show wpAny _ _ (call (Value.ref 162) _) _ _ _); k_here; k_dflt (refine' c_usedN ?kqB ?kqF ?kqX ?kqN ?kqT ?kqhk ?kqhl ?kqhm ?kqm3 ?kqhz ?kqhd ?kqhu ?_; (case kqB => k_asm); (case kqF => k_asm); (case kqX => k_asm); (case kqN => k_asm); (case kqT => k_asm); (case kqhk => walk_at "kind"); (case kqhl => k_mem); (case kqhm => assumption); (case kqm3 => exact lem3); (case kqhz => assumption); (case kqhd => ktr_room); (case kqhu => ktr_units)); intro k' t' h' tk' hk' hnum' F' N'; (try simp only [List.cons_append, List.nil_append] at N')))
  (k_with "call type:list cons nil" => ((with_reducible show wpAny _ _ (call (Value.type "list") [Value.ref _]) _ _ _); k_here; k_dflt (refine' list_nb ?kqF ?kqN ?kqm ?kqhn ?kqh8 ?_; (case kqF => k_asm); (case kqN => k_asm); (case kqm => k_mem); (case kqhn => assumption); (case kqh8 => exact sm4 (by assumption))); intro D' c' h' F' N' l1))
  trivial
section
variable {prog : Program} {w : World} {mg mb : Str → Option Value} {mean : ExcName → Option Value} {loose : List Str} {dp un : Nat} {gd : Option (List Code)} {cn : Str} {cs : Scope} {L a : Addr} {ccd : Value} {cl : List (Str × Addr)} {outer : List Env} {A₀ : Around}
  {base h₀ : Heap} {m : Str → Option Value} {s : Shared} {Q E : Value → Shared → Prop} {A : NA} {news own nt : List (Addr × Obj)} {gs : List (Int × RF)} {R : Nat}

theorem c_raiseN {lu lv : Addr} {nu nv n mm : Nat} {us vs : List NB}
    (B : Below A₀ base outer h₀) (F : Fr h₀ L s.heap m) (X : (hd93.heap_1 w.params).In h₀) (N : News h₀ L s.heap news) (T : Top hd93.view_1 loose mean mg mb h₀) (hk : cs.kind = .function)
    (Sp : Split news own nt) (Ap : Apart own nt) (NI : Net prog w A nt gs (R + mm * (n * (6 * n) + 3 * n + n * (6 * n)))) (hl0 : (lu, listOf (vals us) nu) ∈ own) (hl1 : (lv, listOf (vals vs) nv) ∈ own) (hs : ∀ p ∈ nets us, p ∈ gs) (hv : ∀ p ∈ nets vs, p ∈ gs) (hn : us.length = n) (hm : vs.length = mm) (h1 : 1 ≤ n) (h3 : n ≤ 3) (hm3 : mm ≤ 3)
    (hd : dp + 150 < recursionLimit) (hu : un + 1500 < cLine)
    (ret : ∀ lr nr (rs : List NB) nt' h' tk', Fr h₀ L h' m → News h₀ L h' ((lr, listOf (vals rs) nr) :: (own ++ nt')) → Apart ((lr, listOf (vals rs) nr) :: own) nt' → Net prog w A nt' (nets rs ++ gs) R → rs.length = n → (∀ i, num rs i = num us i ^ num vs i % 2 ^ n) → LCg.Off1 lr own → Q (.ref lr) { s with heap := h', toks := tk' }) :
    wpAny (model prog w) (ktrTop dp un gd cn cs L a ccd cl outer) (call (.ref 169) [.ref A.G, .ref lu, .ref lv]) Q E s := by
  obtain rfl := Sp.eq
  clear Sp
  have le4 : Le4 n := Nat.le_trans h3 (by decide)
  have lm4 : Le4 mm := Nat.le_trans hm3 (by decide)
  have lem3 : Le3 mm := hm3
  have hz : ∀ b ∈ vs, b.n = 0 → b.f = fF := fun b hb => (NI.eq01 (hv _ (List.mem_map.mpr ⟨b, hb, rfl⟩))).1
  clear h3 hm3
  have mG := NI.mG
  have mD := NI.mdG
  refine wpAny_call ?_
  k_dflt (ktr_enter)
  have mk : NmMark := trivial
  rename Fr _ _ _ (fun y => List.lookup y _) => F1
  replace F1 : Fr _ _ _ (fun y => List.lookup y [(Str.ofString "v", .ref lv), (Str.ofString "u", .ref lu), (Str.ofString "g", .ref A.G)]) := F1
  generalize (Shared.toks s + List.length _) = tk0
  k_steps
  rename News _ _ _ _ => N1
  rename Fr _ _ _ _ => F1
  rename IsRange _ _ _ _ _ _ _ _ => hr
  rename Net _ _ _ _ _ _ => NI1
  rename Apart _ _ => Ap1
  unfold Hold
  have ru := rng_up (n := k') (Nat.le_trans hk' lm4)
  with_unfolding_all refine iter_rangeUnr (n := k') (by rfl) hr ru.1 ru.2 F1 N1 ?_
  intro I lI
  refine' rr_inv (RaInv prog w A R n k' lu lv us vs _ I own gs) k' ?step ?fin k' 0 _ _ (Nat.zero_add _) ?init
  case init =>
    refine' ⟨_, _, _, _, _, us, _, _, rfl, ap_new Ap1 fun p hp => Nat.ne_of_lt (l1 p hp), fun p hp => Nat.ne_of_lt (lI p hp), fun p hp => o8' p hp, NI1.le (ra_bud0 hk'), gin_here, gin_app hs, fun p hp => List.mem_append_right _ hp, by assumption, hn, rfl, rfl, rfl, ?mk4, ?mk5, ?mk6, fun i => ?q4, fun i _ => pw_one hn⟩
    case mk4 => walk_at "mlook"
    case mk5 => walk_at "mlook"
    case mk6 => walk_at "mlook"
    case q4 => rw [List.take_zero]; exact pw_zero h1 (sp' i)
  case step =>
    clear N1 F1 hr NI1 Ap1 l1 o8' mG mD
    rintro j m1 news1 hj ⟨Dr, Ds, cr, cq, rs, qs, nt1, gs1, rfl, Ap3, hI, hDr, NI3, hrs, hqs, hgl, hlr, hlq, k1, k2, k3, k4, k5, k6, hsr, hsq⟩ t hh tk F3 N3
    rw [Int.zero_add] at F3
    have hj9 : j < 9 := Nat.lt_of_lt_of_le hj (Nat.le_trans hk' (Nat.le_trans lm4 (by decide)))
    obtain ⟨d, hd9⟩ := getL (us := vs) hm (Nat.lt_of_lt_of_le hj hk')
    have hdm := hgl _ (mem_nets hv hd9)
    have NI4 := NI3.le (R' := R + (k' - (j + 1)) * (n * (6 * n) + 3 * n + n * (6 * n)) + n * (6 * n) + 3 * n + n * (6 * n)) (ra_bud hj)
    clear NI3
    have mG := NI4.mG
    have mD := NI4.mdG
    try simp only [List.cons_append] at N3
    k_steps
    · unfold Hold
      rename News _ _ _ _ => N7
      rename Net _ _ _ _ _ _ => NI7
      rename Apart _ _ => Ap7
      rename Fr _ _ _ _ => F7
      rename OffD _ (_ :: _ :: _ :: _ :: _ :: own) => oA
      rename OffD _ (_ :: _ :: _ :: _ :: own) => oB
      rename ∀ i, num _ i = if d.f i = true then _ else _ => sB
      rename ∀ i, num _ i = num qs i * num qs i % 2 ^ n => sC
      rename ∀ i, num _ i = num rs i * num qs i % 2 ^ n => sA
      have hE := ra_end hI (oA _ (.tail _ (.tail _ (.head _)))) (oB _ (.tail _ (.head _))) (Ap7 _ (.tail _ (.tail _ (.tail _ (.head _)))))
      refine' UnrEnd.intro F7 N7 (_ :: _ :: (own ++ _)) (List.forall_mem_cons.mpr ⟨.tail _ (.tail _ (.tail _ (.head _))), List.forall_mem_cons.mpr ⟨.head _, List.forall_mem_cons.mpr ⟨.tail _ (.head _), fun p hp => .tail _ (.tail _ (.tail _ (.tail _ (.tail _ (.tail _ hp)))))⟩⟩⟩)
        (hE _ _) ⟨_, _, _, _, _, _, _, _, rfl, fun x hx => Ap7 x (List.forall_mem_cons.mpr ⟨.head _, List.forall_mem_cons.mpr ⟨.tail _ (.head _), fun p hp => .tail _ (.tail _ (.tail _ (.tail _ (.tail _ (.tail _ hp)))))⟩⟩ x hx), hE _ _, fun p hp => oB p (.tail _ (.tail _ (.tail _ (.tail _ hp)))),
          NI7, gin_app gin_here, gin_here, gin_app (gin_app (gin_app hgl)), by assumption, by assumption, ?mk1, ?mk2, ?mk3, ?mk4, ?mk5, ?mk6, fun i => ?q4, fun i _ => ?q5⟩
      case mk1 => walk_at "mlook"
      case mk2 => walk_at "mlook"
      case mk3 => walk_at "mlook"
      case mk4 => walk_at "mlook"
      case mk5 => walk_at "mlook"
      case mk6 => walk_at "mlook"
      case q4 => rw [num_take hd9]; exact pw_mux (hsr i) (hsq i hj) (sA i) (sB i)
      case q5 => rw [Nat.pow_succ, Nat.mul_two]; exact pw_sq (hsq i hj) (sC i)
    · unfold Hold
      rename News _ _ _ _ => N7
      rename Net _ _ _ _ _ _ => NI7
      rename Apart _ _ => Ap7
      rename Fr _ _ _ _ => F7
      rename OffD _ (_ :: _ :: _ :: _ :: own) => oB
      rename ∀ i, num _ i = if d.f i = true then _ else _ => sB
      rename ∀ i, num _ i = num rs i * num qs i % 2 ^ n => sA
      have hE := ra_end hI (hI _ (.head _)).symm (oB _ (.tail _ (.head _))) (Ap7 _ (.tail _ (.tail _ (.head _))))
      refine' UnrEnd.intro F7 N7 (_ :: _ :: (own ++ _)) (List.forall_mem_cons.mpr ⟨.tail _ (.tail _ (.head _)), List.forall_mem_cons.mpr ⟨.tail _ (.tail _ (.tail _ (.head _))), List.forall_mem_cons.mpr ⟨.head _, fun p hp => .tail _ (.tail _ (.tail _ (.tail _ (.tail _ hp))))⟩⟩⟩)
        (hE _ _) ⟨_, _, _, _, _, _, _, _, rfl, fun x hx => Ap7 x (List.forall_mem_cons.mpr ⟨.tail _ (.tail _ (.tail _ (.head _))), List.forall_mem_cons.mpr ⟨.head _, fun p hp => .tail _ (.tail _ (.tail _ (.tail _ (.tail _ hp))))⟩⟩ x hx), hE _ _, fun p hp => oB p (.tail _ (.tail _ (.tail _ (.tail _ hp)))),
          NI7.le (Nat.le_add_right _ _), gin_here, gin_app (gin_app hqs), gin_app (gin_app hgl), by assumption, hlq, ?nk1, ?nk2, ?nk3, ?nk4, ?nk5, ?nk6, fun i => ?p4, fun i h => absurd h (by omega)⟩
      case nk1 => walk_at "mlook"
      case nk2 => walk_at "mlook"
      case nk3 => walk_at "mlook"
      case nk4 => walk_at "mlook"
      case nk5 => walk_at "mlook"
      case nk6 => walk_at "mlook"
      case p4 => rw [num_take hd9]; exact pw_mux (hsr i) (hsq i hj) (sA i) (sB i)
  case fin => 
    rintro m1 news1 ⟨Dr, Ds, cr, cq, rs, qs, nt1, gs1, rfl, Ap3, hI, hDr, NI3, hrs, hqs, hgl, hlr, hlq, k1, k2, k3, k4, k5, k6, hsr, hsq⟩ hh tk F3 N3
    dsimp only
    try simp only [List.cons_append] at N3
    k_steps
    rename News h₀ L _ _ => N9
    refine ret _ _ _ _ _ _ (by k_asm) (news_sub (l' := _ :: (own ++ _)) N9 fun p hp => .tail _ hp) Ap3.tail (net_fin NI3 (Nat.le_add_right _ _) (gall hrs hgl)) hlr (fun i => ?_) (off1_of hDr)
    have h := hsr i
    rw [hnum' i] at h
    exact h

end
end Mine93
-- Zal
namespace Mine93
theorem succ_int (k : Nat) : (k : Int) + 1 = ((k + 1 : Nat) : Int) := by omega
def andL (us : List NB) (i : Nat) : Bool := us.all fun b => b.f i
theorem andL_app {us : List NB} {b : NB} {i : Nat} : andL (us ++ [b]) i = (andL us i && b.f i) := by simp [andL]
theorem andL_take {us : List NB} {b : NB} {j i : Nat} (h : us[j]? = some b) : andL (us.take (j + 1)) i = (andL (us.take j) i && b.f i) := by
  rw [List.take_add_one, h]; exact andL_app
theorem andL_num {us : List NB} {n : Nat} (h : us.length = n) (i : Nat) : andL us i = (num us i == 2 ^ n - 1) := by
  subst h
  induction us with
  | nil => rfl
  | cons b r ih =>
    have hb := Bool.toNat_le (b.f i)
    have hr := num_lt r i
    have e : num (b :: r) i = (b.f i).toNat + 2 * num r i := rfl
    have e2 : 2 ^ (r.length + 1) = 2 * 2 ^ r.length := by rw [Nat.pow_succ, Nat.mul_comm]
    show (b.f i && andL r i) = _
    rw [ih, e, List.length_cons, e2, Bool.eq_iff_iff]
    simp only [Bool.and_eq_true, beq_iff_eq]
    cases b.f i <;> simp <;> omega
section
variable {prog : Program} {w : World} {A : Around} {E : Value → Shared → Prop} {s : Shared} {h₀ : Heap} {L D : Addr} {news : List (Addr × Obj)} {us : List NB} {c k : Nat} {b : NB} {t : Tok} {value slice : PySem.Expr} {Q : Value → Shared → Prop}
theorem neg_nb (N : News h₀ L s.heap news) (hm : (D, listOf (vals us) c) ∈ news) (hl : us.length = k + 1) (h9 : k < 9) (hx : us[k]? = some b) (h : Q (.int b.n b.t) s)
    (hs : subscripted slice false (.ref D) (.int (-1) t) = operate [.ref D, .int (-1) t] (getItem (.ref D) (.int (-1) t)) := by with_unfolding_all rfl) :
    wpAny (model prog w) A (subscriptTail value slice (.ref D) (.int (-1) t)) Q E s :=
  item_own_neg (vs := us.map NB.val) N hm (by decide) (by rw [List.length_map, hl]; omega) (by decide) (by rw [List.length_map, hl, show ((-1 : Int) + ((k + 1 : Nat) : Int)).toNat = k by omega, List.getElem?_map, hx]; rfl) h hs
end
theorem rng_two {k : Nat} (h2 : 2 ≤ k) (h4 : Le4 k) : Builtin.Range.small 0 ((k : Int) - 1) 2 = true ∧ Builtin.Range.rangeSize 0 ((k : Int) - 1) 2 = ((k / 2 : Nat) : Int) := by
  have h4 : k ≤ 4 := h4
  match k, h2, h4 with
  | 2, _, _ => decide
  | 3, _, _ => decide
  | 4, _, _ => decide
theorem and_one {rs : List NB} {b : NB} {i : Nat} (h : rs.length = 1) (hb : rs[0]? = some b) : b.f i = andL rs i := by
  obtain ⟨x, rfl⟩ := List.length_eq_one_iff.mp h
  have e : x = b := by simpa using hb
  subst e; simp [andL]
theorem al_odd {q : Nat} (h : Int.fmod ((q + 1 : Nat) : Int) 2 = 1) : (q + 1) % 2 = 1 := by
  rw [Int.fmod_eq_emod_of_nonneg _ (by decide)] at h; omega
theorem al_even {q : Nat} (h : ¬ Int.fmod ((q + 1 : Nat) : Int) 2 = 1) : (q + 1) % 2 = 0 := by
  rw [Int.fmod_eq_emod_of_nonneg _ (by decide)] at h; omega
inductive AwInv (prog : Program) (w : World) (A : NA) (R : Nat) (us : List NB) (own : List (Addr × Obj)) (gl : List (Int × RF)) (k : Nat) (m : Str → Option Value) (news : List (Addr × Obj)) : Prop
  | mk (D : Addr) (c : Nat) (rs : List NB) (nt : List (Addr × Obj)) (gs : List (Int × RF)) : news = (D, listOf (vals rs) c) :: (own ++ nt) → Apart ((D, listOf (vals rs) c) :: own) nt → Net prog w A nt gs (R + k) → (∀ p ∈ nets rs, p ∈ gs) → (∀ p ∈ gl, p ∈ gs) → rs.length = k → 1 ≤ k → Le4 k →
    m (Str.ofString "g") = some (.ref A.G) → m (Str.ofString "rows") = some (.ref D) → (∀ i, andL rs i = andL us i) → AwInv prog w A R us own gl k m news
inductive AjInv (prog : Program) (w : World) (A : NA) (R k : Nat) (D I : Addr) (rs : List NB) (bs : List (Addr × Obj)) (gl : List (Int × RF)) (j : Nat) (m : Str → Option Value) (news : List (Addr × Obj)) : Prop
  | mk (W : Addr) (c : Nat) (js : List NB) (nt : List (Addr × Obj)) (gs : List (Int × RF)) : news = (W, listOf (vals js) c) :: (bs ++ nt) → Apart ((W, listOf (vals js) c) :: bs) nt → (∀ q ∈ news, q.1 ≠ I) → (∀ q ∈ bs, q.1 ≠ W) → Net prog w A nt gs (R + (k - j)) → (∀ p ∈ nets js, p ∈ gs) → (∀ p ∈ gl, p ∈ gs) → js.length = j →
    m (Str.ofString "g") = some (.ref A.G) → m (Str.ofString "rows") = some (.ref D) → m (Str.ofString "joined") = some (.ref W) → (∀ i, andL js i = andL (rs.take (2 * j)) i) → AjInv prog w A R k D I rs bs gl j m news
theorem kwZal0 : True := by
  k_with_none
  (k_with "room" => first | exact Nat.le_of_ble_eq_true rfl | exact room2 (by assumption) (Nat.le_of_ble_eq_true rfl) | exact room3 (by assumption) (Nat.le_of_ble_eq_true rfl) | exact room1 (by assumption))
  (k_with "units" => first | exact Nat.le_of_ble_eq_true rfl | exact room2 (by assumption) (Nat.le_of_ble_eq_true rfl) | exact room3 (by assumption) (Nat.le_of_ble_eq_true rfl) | exact room1 (by assumption))
  (k_with "splits" => first | exact Split.app | (refine' Split.cons ?kqx; (case kqx => walk_at "splits")) | exact Split.nil)
  (k_with "sub" => ((repeat (first | exact sub_refl | exact sub_appL | exact sub_appR | (refine sub_cons ?kqmem ?_; (case kqmem => k_mem)) | refine sub_tail ?_)); done))
  (k_with "notin" => first | assumption | exact Apart.at (by assumption) (by k_mem) | exact OffM.notI (by assumption) (by walk_at "sub") | exact OffM.notC (by assumption) (by walk_at "sub") | exact OffM.notD (by assumption) (by walk_at "sub") | exact Hi.not (by assumption) (by walk_at "sub") | exact OffD.not (by assumption) (by walk_at "sub") | exact not_of_lt (by walk_at "lts") (by walk_at "sub"))
  (k_with "k_ne" => ((try dsimp only); first | assumption | exact Ne.symm (by assumption) | (refine' OffD.at ?kqh ?kqm; (case kqh => assumption); (case kqm => walk_at "ina")) | (refine' OffD.at' ?kqh ?kqm; (case kqh => assumption); (case kqm => walk_at "ina")) | exact ne_lt' (by assumption) | exact ne_gt' (by assumption) | fail))
  (k_with "k_all" => first | exact List.forall_mem_nil _ | (refine' List.forall_mem_cons.mpr ⟨?kqa, ?kqb⟩; (case kqa => k_ne); (case kqb => k_all)) | assumption | exact Apart.ne (by assumption) (by k_mem) | (refine all_app ?_ ?_ <;> k_all) | exact Hi.ne (by assumption) (by walk_at "sub") | exact ne_of_lt' (by walk_at "lts") (by walk_at "sub") | exact OffD.ne' (by assumption) (by walk_at "sub"))
  (k_with "pull" => first | exact Pull.here | (refine' Pull.next ?kqp; (case kqp => walk_at "pull")))
  (k_with "k_mem" => first | ((with_reducible refine mem_appL ?_); ktr_member) | ((with_reducible refine mem_appR ?_); ktr_member) | ((with_reducible refine mem_raw ?_); ktr_member))
  (k_with "split" => first | exact Split.app | (refine' Split.cons ?kqx; (case kqx => walk_at "split")) | exact Split.nil)
  (k_with "apart" => first | assumption | exact Apart.nil | (refine' Apart.cons ?kqa ?kqb; (case kqa => walk_at "notin"); (case kqb => walk_at "apart")) | exact Apart.sub (by assumption) (by walk_at "sub"))
  (k_with "kind" => first | exact rfl | assumption)
  (k_with "call ref" => ((with_reducible show wpAny _ _ (call (Value.ref 63) _) _ _ _); k_here; k_dflt (refine' c_both ?kqB ?kqF ?kqX ?kqN ?kqT ?kqhk ?kqSp ?kqAp ?kqNI ?kqhx ?kqhy ?kqhd ?kqhu ?_; (case kqB => k_asm); (case kqF => k_asm); (case kqX => k_asm); (case kqN => k_asm); (case kqT => k_asm); (case kqhk => walk_at "kind"); (case kqSp => walk_at "split"); (case kqNI => assumption); (case kqAp => walk_at "apart"); (case kqhx => k_mem); (case kqhy => k_mem); (case kqhd => ktr_room); (case kqhu => ktr_units)); intro r' t' nt' h' tk' F' N' Ap' NI'; (have mG' := Net.mG NI'); (have mD' := Net.mdG NI'); (try simp only [List.cons_append, List.nil_append] at N'); (try k_sweep)))
  (k_with "pyIter ref" => ((with_reducible show wpAny _ _ (pyIter (Value.ref _)) (fun it s₂ => LoopAtV _ _ _ _ _ _ _ _ _ it s₂) _ _); refine hold ?_))
  (k_with "UnrEnd" => (refine hold ?_))
  (k_with "eval Name" => ((rename NmMark => mk9); k_here; k_dflt (refine' nameX_L ?kqF ?kqv ?_ ?kqa ?kqb; (case kqa => rfl); (case kqb => rfl); (case kqF => k_asm); (case kqv => walk_at "mlook"); k_whole)))
  (k_with "mlook" => first | (with_reducible assumption) | (refine' look_neg ?kqa ?kqb; (case kqb => decide); (case kqa => walk_at "mlook")) | exact rfl)
  (k_with "subscriptTail Name Name ref int" => ((with_reducible show wpAny _ _ (subscriptTail _ _ (Value.ref _) (Value.int _ _)) _ _ _); k_here; k_dflt (refine' item_nb ?kqN ?kqm ?kqk ?kqh9 ?kqx ?_; (case kqN => k_asm); (case kqm => k_mem); (case kqk => exact rfl); (case kqh9 => assumption); (case kqx => assumption))))
  (k_with "gin" => first | assumption | exact gin_here | (refine' gin_app ?kqp; (case kqp => walk_at "gin")) | (refine' gin_cons ?kqp; (case kqp => walk_at "gin")) | exact gin_nil | (refine' gin_two ?kqa ?kqb; (case kqa => k_mem); (case kqb => walk_at "gin")))
  (k_with "len" => first | assumption | exact rfl)
  (k_with "call builtin:list.append cons nil" => ((with_reducible show wpAny _ _ (call (Value.builtin _) [Value.ref _, Value.int _ _]) _ _ _); k_here; k_dflt (refine' app_nb ?kqNI ?kqhm ?kqF ?kqN ?kqU ?kqhl ?_; (case kqNI => assumption); (case kqhm => k_mem); (case kqF => k_asm); (case kqN => k_asm); (case kqU => k_upd); (case kqhl => first | assumption | omega | (simp only [List.length_append, List.length_replicate]; omega))); intro h' F' N'; (try dsimp only [List.nil_append, List.cons_append] at N'); (try k_sweep)))
  (k_with "call builtin:len cons nil" => ((with_reducible show wpAny _ _ (call (Value.builtin "len") [Value.ref _]) _ _ _); k_here; k_dflt (refine' len_nb ?kqN ?kqm ?kqhn ?kqh8 ?_; (case kqN => k_asm); (case kqm => k_mem); (case kqhn => first | assumption | exact rfl); (case kqh8 => exact sm4 (by assumption)))))
  (k_with "exec While Compare cons nil" => (refine hold ?_))
  (k_with "WhlRest" => (refine hold ?_))
  (k_with "subscriptTail Name BinOp ref int" => ((with_reducible show wpAny _ _ (subscriptTail _ _ (Value.ref _) (Value.int _ _)) _ _ _); k_here; k_dflt (refine' item_nb ?kqN ?kqm ?kqk ?kqh9 ?kqx ?_; (case kqN => k_asm); (case kqm => k_mem); (case kqk => exact succ_int _); (case kqh9 => assumption); (case kqx => assumption))))
  (k_with "subscriptTail Name Constant ref int" => ((with_reducible show wpAny _ _ (subscriptTail _ _ (Value.ref _) (Value.int _ _)) _ _ _); k_here; k_dflt (refine' item_nb ?kqN ?kqm ?kqk ?kqh9 ?kqx ?_; (case kqN => k_asm); (case kqm => k_mem); (case kqk => exact rfl); (case kqh9 => decide); (case kqx => assumption))))
  (k_with "subscriptTail Name UnaryOp ref int" => ((with_reducible show wpAny _ _ (subscriptTail _ _ (Value.ref _) (Value.int _ _)) _ _ _); k_here; k_dflt (refine' neg_nb ?kqN ?kqm ?kqk ?kqh9 ?kqx ?_; (case kqN => k_asm); (case kqm => k_mem); (case kqk => assumption); (case kqh9 => assumption); (case kqx => assumption))))
  (k_with "call type:list cons nil" => ((with_reducible show wpAny _ _ (call (Value.type "list") [Value.ref _]) _ _ _); k_here; k_dflt (refine' list_nb ?kqF ?kqN ?kqm ?kqhn ?kqh8 ?_; (case kqF => k_asm); (case kqN => k_asm); (case kqm => k_mem); (case kqhn => assumption); (case kqh8 => exact sm4 (by assumption))); intro D' c' h' F' N' l1))
  trivial
section
variable {prog : Program} {w : World} {mg mb : Str → Option Value} {mean : ExcName → Option Value} {loose : List Str} {dp un : Nat} {gd : Option (List Code)} {cn : Str} {cs : Scope} {L a : Addr} {ccd : Value} {cl : List (Str × Addr)} {outer : List Env} {A₀ : Around}
  {base h₀ : Heap} {m : Str → Option Value} {s : Shared} {Q E : Value → Shared → Prop} {A : NA} {news own nt : List (Addr × Obj)} {gs : List (Int × RF)} {R : Nat}

theorem c_allN {lu : Addr} {nu n : Nat} {us : List NB}
    (B : Below A₀ base outer h₀) (F : Fr h₀ L s.heap m) (X : (hd93.heap_1 w.params).In h₀) (N : News h₀ L s.heap news) (T : Top hd93.view_1 loose mean mg mb h₀) (hk : cs.kind = .function)
    (Sp : Split news own nt) (Ap : Apart own nt) (NI : Net prog w A nt gs (R + n)) (hl0 : (lu, listOf (vals us) nu) ∈ own) (hs : ∀ p ∈ nets us, p ∈ gs) (hn : us.length = n) (h1 : 1 ≤ n) (h4 : n ≤ 4)
    (hd : dp + 60 < recursionLimit) (hu : un + 480 < cLine)
    (ret : ∀ r t (Z : RF) nt' h' tk', Fr h₀ L h' m → News h₀ L h' (own ++ nt') → Apart own nt' → Net prog w A nt' ((r, Z) :: gs) R → (∀ i, Z i = (num us i == 2 ^ n - 1)) → Q (.int r t) { s with heap := h', toks := tk' }) :
    wpAny (model prog w) (ktrTop dp un gd cn cs L a ccd cl outer) (call (.ref 115) [.ref A.G, .ref lu]) Q E s := by
  obtain rfl := Sp.eq
  clear Sp
  have le4 : Le4 n := h4
  clear h4
  have mG := NI.mG
  have mD := NI.mdG
  refine wpAny_call ?_
  k_dflt (ktr_enter)
  have mk : NmMark := trivial
  rename Fr _ _ _ (fun y => List.lookup y _) => F1
  replace F1 : Fr _ _ _ (fun y => List.lookup y [(Str.ofString "u", .ref lu), (Str.ofString "g", .ref A.G)]) := F1
  generalize (Shared.toks s + List.length _) = tk0
  k_steps
  rename News _ _ _ _ => N1
  rename Fr _ _ _ _ => F1
  unfold Hold
  refine whl_start 0 ?_
  refine whl_ind (AwInv prog w A R us own gs) ?step n _ _ ?init _ _ F1 N1
  case init => exact ⟨_, _, us, nt, gs, rfl, ap_new Ap fun p hp => Nat.ne_of_lt (l1 p hp), NI, hs, fun _ h => h, hn, h1, le4, rfl, rfl, fun _ => rfl⟩
  case step =>
    clear F1 N1 l1 mG mD
    rintro k m1 news1 ih ⟨D, c, rs, nt1, gs1, rfl, Ap3, NI3, hrs, hgl, hlen, hk1, lek, k1, k2, hsp⟩ h9 tk1 F3 N3
    have mG := NI3.mG
    have mD := NI3.mdG
    obtain ⟨b0, hb0⟩ := getL hlen (show 0 < k from hk1)
    have hb0m := hrs _ (List.mem_map.mpr ⟨b0, List.mem_of_getElem? hb0, rfl⟩)
    refine whl_turn (by first | passes_own | with_unfolding_all passes_own) ?_
    k_steps
    by_cases h2 : 1 < (k : Int)
    · refine WhlIf.yes (decide_eq_true h2) ?_
      dsimp only
      have rt := rng_two (show 2 ≤ k by omega) lek
      k_steps
      rename News _ _ _ _ => N5
      rename Fr _ _ _ _ => F5
      rename IsRange _ _ _ _ _ _ _ _ => hr
      rename _ < _ ∧ AllLt _ (own ++ nt1) => l5
      have l5 := all_of (o := listOf (vals rs) c) l5
      unfold Hold
      with_unfolding_all refine krs_iter (n := k / 2) (by rfl) hr rt.1 rt.2 F5 N5 ?_
      intro I lI
      refine' krs_inv (AjInv prog w A R k D I rs ((D, listOf (vals rs) c) :: own) gs1) (k / 2) ?jstep ?jfin (k / 2) 0 _ _ (Nat.zero_add _) ?jinit
      case jinit =>
        refine' ⟨_, 0, [], nt1, gs1, rfl, ap_new Ap3 fun p hp => Nat.ne_of_lt (l5 p hp), fun q hq => Nat.ne_of_lt (lI q hq), fun p hp => Nat.ne_of_lt (l5 p (List.mem_append_left nt1 hp)), NI3, (fun p h => nomatch h), (fun _ h => h), rfl, ?mk1, ?mk2, rfl, fun i => rfl⟩
        case mk1 => walk_at "mlook"
        case mk2 => walk_at "mlook"
      case jstep =>
        clear N5 F5 hr l5 NI3 mG mD
        rintro j m3 news3 hj ⟨W, c3, js, nt3, gs3, rfl, Ap4, hI4, hW4, NI5, hjs, hgl4, hl4, e1, e2, e3, hsp4⟩ t hh tk9 F7 N7
        rw [even_int] at F7
        have hk9 : k < 9 := Nat.lt_of_le_of_lt lek (by decide)
        obtain ⟨x, hx⟩ := getL hlen (Nat.lt_of_succ_lt (half_0 hj))
        obtain ⟨y, hy⟩ := getL hlen (half_0 hj)
        have hxm := hgl4 _ (mem_nets hrs hx)
        have hym := hgl4 _ (mem_nets hrs hy)
        have hj9 : 2 * j + 1 < 9 := Nat.lt_trans (half_0 hj) hk9
        have hj8 : 2 * j < 9 := Nat.lt_of_succ_lt hj9
        have NI6 := NI5.le (R' := R + (k - (j + 1)) + 1) (one_sub (Nat.lt_of_lt_of_le hj (Nat.div_le_self k 2)))
        clear NI5
        have mG := NI6.mG
        have mD := NI6.mdG
        have hWI := hI4 _ (.head _)
        obtain ⟨w1, w4⟩ := List.forall_mem_cons.mp hW4
        dsimp only at hWI w1
        try simp only [List.cons_append] at N7
        k_steps
        unfold Hold
        rename News _ _ _ _ => N8
        rename Net _ _ _ _ _ _ => NI8
        rename Apart _ _ => Ap8
        rename Fr _ _ _ _ => F8
        refine' UnrEnd.intro F8 N8 _ (fun _ h => h) (off_mix hI4 (Ap8 _ (.head _))) ⟨_, _, _, _, _, rfl, ap_obj Ap8.tail, off_mix hI4 (Ap8 _ (.head _)), hW4, NI8, ?rs, gin_cons hgl4, ?ln, ?mk1, ?mk2, ?mk3, fun i => ?sp⟩
        case rs => exact nets_app (gin_cons hjs) (.head _)
        case ln => simp [hl4]
        case mk1 => walk_at "mlook"
        case mk2 => walk_at "mlook"
        case mk3 => walk_at "mlook"
        case sp => rw [andL_app, show 2 * (j + 1) = 2 * j + 1 + 1 from rfl, andL_take hy, andL_take hx, hsp4 i, Bool.and_assoc]
      case jfin =>
        clear N5 F5 hr l5 NI3 mG mD
        rintro m3 news3 ⟨W, c3, js, nt3, gs3, rfl, Ap4, hI4, hW4, NI5, hjs, hgl4, hl4, e1, e2, e3, hsp4⟩ hh tk9 F7 N7
        dsimp only
        obtain ⟨q, rfl⟩ : ∃ q, k = q + 1 := ⟨k - 1, by omega⟩
        obtain ⟨y, hy⟩ := getL hlen (Nat.lt_succ_self q)
        have hym := hgl4 _ (mem_nets hrs hy)
        have hq9 : q < 9 := Nat.lt_of_lt_of_le lek (by decide)
        have mG := NI5.mG
        have mD := NI5.mdG
        obtain ⟨w1, w4⟩ := List.forall_mem_cons.mp hW4
        dsimp only at w1
        try simp only [List.cons_append] at N7
        k_steps
        · unfold Hold
          rename News _ _ _ _ => N8
          rename Fr _ _ _ _ => F8
          have ho : (q + 1) % 2 = 1 := al_odd (by assumption)
          refine' ih ((q + 1 + 1) / 2) (half_2 h2) _ _ ⟨W, _, _, nt3, gs3, rfl, fun x hx => ap_obj Ap4 x (List.forall_mem_cons.mpr ⟨.head _, fun p hp => .tail _ (.tail _ hp)⟩ x hx), NI5.le half_3, nets_app hjs hym, fun p hp => hgl4 p (hgl p hp), by rw [List.length_append]; exact half_5 ho hl4, half_1, Nat.le_trans half_4 lek, ?nk1, ?nk2, fun i => ?nsp⟩ _ _ F8 (news_sub (l' := _ :: (own ++ nt3)) N8 (List.forall_mem_cons.mpr ⟨.head _, fun p hp => .tail _ (.tail _ hp)⟩))
          case nk1 => walk_at "mlook"
          case nk2 => walk_at "mlook"
          case nsp =>
            have e := half_7 ho
            rw [andL_app, hsp4 i, e, ← andL_take hy, List.take_of_length_le (Nat.le_of_eq hlen), hsp i]
        · unfold Hold
          rename News _ _ _ _ => N8
          rename Fr _ _ _ _ => F8
          have ho : (q + 1) % 2 = 0 := al_even (by assumption)
          refine' ih ((q + 1 + 1) / 2) (half_2 h2) _ _ ⟨W, _, _, nt3, gs3, rfl, fun x hx => Ap4 x (List.forall_mem_cons.mpr ⟨.head _, fun p hp => .tail _ (.tail _ hp)⟩ x hx), NI5.le half_3, hjs, fun p hp => hgl4 p (hgl p hp), half_6 ho hl4, half_1, Nat.le_trans half_4 lek, ?ok1, ?ok2, fun i => ?osp⟩ _ _ F8 (news_sub (l' := _ :: (own ++ nt3)) N8 (List.forall_mem_cons.mpr ⟨.head _, fun p hp => .tail _ (.tail _ hp)⟩))
          case ok1 => walk_at "mlook"
          case ok2 => walk_at "mlook"
          case osp =>
            have e := half_8 ho
            rw [hsp4 i, e, List.take_of_length_le (Nat.le_of_eq hlen), hsp i]
    · refine WhlIf.no (decide_eq_false h2) ?_
      dsimp only
      have e1 : k = 1 := by omega
      subst e1
      k_steps
      rename News h₀ L _ _ => N9
      refine ret _ _ b0.f nt1 _ _ (by k_asm) (news_sub (l' := own ++ nt1) N9 fun p hp => .tail _ hp) Ap3.tail (net_fin NI3 (Nat.le_add_right _ _) (gsub_cons hb0m hgl)) fun i => ?_
      rw [← andL_num hn i, ← hsp i]
      exact and_one hlen hb0

end
end Mine93
-- Zel
namespace Mine93
theorem any_spec {a u P : Nat} (h : a + u + 1 = P) : (!(a == P - 1)) = (u != 0) := by
  subst h
  cases u with
  | zero => simp
  | succ k => simp [bne]
inductive CEq (prog : Program) (w : World) (A : NA) (R n : Nat) (us vs : List NB) (gl : List (Int × RF)) (bs : List (Addr × Obj)) (j : Nat) (ys : List Value) (news : List (Addr × Obj)) : Prop
  | mk (rs : List NB) (nt : List (Addr × Obj)) (gs : List (Int × RF)) : ys = rs.map NB.val → news = bs ++ nt → Apart bs nt → Net prog w A nt gs (R + 2 * (n - j)) → (∀ p ∈ nets rs, p ∈ gs) → (∀ p ∈ gl, p ∈ gs) → rs.length = j → (∀ i, andL rs i = (num (us.take j) i == num (vs.take j) i)) → CEq prog w A R n us vs gl bs j ys news
theorem ceq_r {prog : Program} {w : World} {A : NA} {R n j : Nat} {us vs rs : List NB} {gl gs : List (Int × RF)} {bs nt : List (Addr × Obj)} {r : Int} {t : Tok} {f : RF} (Ap : Apart bs nt) (NI : Net prog w A nt gs (R + 2 * (n - (j + 1)))) (hm : (r, f) ∈ gs) (hrs : ∀ p ∈ nets rs, p ∈ gs) (hgl : ∀ p ∈ gl, p ∈ gs) (hlen : rs.length = j)
    (sp : ∀ i, andL (rs ++ [⟨r, t, f⟩]) i = (num (us.take (j + 1)) i == num (vs.take (j + 1)) i)) : CEq prog w A R n us vs gl bs (j + 1) (rs.map NB.val ++ [.int r t]) (bs ++ nt) :=
  ⟨rs ++ [⟨r, t, f⟩], nt, gs, by simp, rfl, Ap, NI, nets_app hrs hm, hgl, by simp [hlen], sp⟩
theorem two_sub {R n j : Nat} (h : j < n) : R + 2 * (n - (j + 1)) + 2 ≤ R + 2 * (n - j) := by omega
theorem eq_bit {a b j : Nat} {x y : Bool} (ha : a < 2 ^ j) (hb : b < 2 ^ j) : ((a == b) && !(x != y)) = (a + x.toNat * 2 ^ j == b + y.toNat * 2 ^ j) := by
  rw [Bool.eq_iff_iff]
  simp only [Bool.and_eq_true, beq_iff_eq]
  cases x <;> cases y <;> simp <;> omega
theorem ap_off3 {D : Addr} {o : Obj} {a b c : Addr × Obj} {own nt : List (Addr × Obj)} (Ap : Apart own nt) (h : OffD D (a :: b :: c :: (own ++ nt))) : Apart ((D, o) :: own) nt := fun x hx q hq => by
  rcases List.mem_cons.mp hx with rfl | hx
  · exact (h q (.tail _ (.tail _ (.tail _ (List.mem_append_right _ hq))))).symm
  · exact Ap x hx q hq
theorem kwZel0 : True := by
  k_with_none
  (k_with "room" => first | exact Nat.le_of_ble_eq_true rfl | exact room2 (by assumption) (Nat.le_of_ble_eq_true rfl) | exact room3 (by assumption) (Nat.le_of_ble_eq_true rfl) | exact room1 (by assumption))
  (k_with "units" => first | exact Nat.le_of_ble_eq_true rfl | exact room2 (by assumption) (Nat.le_of_ble_eq_true rfl) | exact room3 (by assumption) (Nat.le_of_ble_eq_true rfl) | exact room1 (by assumption))
  (k_with "splits" => first | exact Split.app | (refine' Split.cons ?kqx; (case kqx => walk_at "splits")) | exact Split.nil)
  (k_with "sub" => ((repeat (first | exact sub_refl | exact sub_appL | exact sub_appR | (refine sub_cons ?kqmem ?_; (case kqmem => k_mem)) | refine sub_tail ?_)); done))
  (k_with "notin" => first | assumption | exact Apart.at (by assumption) (by k_mem) | exact OffM.notI (by assumption) (by walk_at "sub") | exact OffM.notC (by assumption) (by walk_at "sub") | exact OffM.notD (by assumption) (by walk_at "sub") | exact Hi.not (by assumption) (by walk_at "sub") | exact OffD.not (by assumption) (by walk_at "sub") | exact not_of_lt (by walk_at "lts") (by walk_at "sub"))
  (k_with "k_ne" => ((try dsimp only); first | assumption | exact Ne.symm (by assumption) | (refine' OffD.at ?kqh ?kqm; (case kqh => assumption); (case kqm => walk_at "ina")) | (refine' OffD.at' ?kqh ?kqm; (case kqh => assumption); (case kqm => walk_at "ina")) | exact ne_lt' (by assumption) | exact ne_gt' (by assumption) | fail))
  (k_with "k_all" => first | exact List.forall_mem_nil _ | (refine' List.forall_mem_cons.mpr ⟨?kqa, ?kqb⟩; (case kqa => k_ne); (case kqb => k_all)) | assumption | exact Apart.ne (by assumption) (by k_mem) | (refine all_app ?_ ?_ <;> k_all) | exact Hi.ne (by assumption) (by walk_at "sub") | exact ne_of_lt' (by walk_at "lts") (by walk_at "sub") | exact OffD.ne' (by assumption) (by walk_at "sub"))
  (k_with "eval ListComp" => (k_here; k_dflt (refine LCg.ListComp_U (F₀ := by k_asm) (by with_unfolding_all rfl) (by decide) (by rfl) (by decide) (by rfl) ?_); k_dflt lcg_toSrc))
  (k_with "pull" => first | exact Pull.here | (refine' Pull.next ?kqp; (case kqp => walk_at "pull")))
  (k_with "FinE" => ((unfold LCg.FinE); intro D' h' tk' F' N' o1'; (have o8' := offD_of o1'); (try simp only [LCg.Off1, and_true] at o1'); (try simp only [List.nil_append, List.cons_append] at N'); (try dsimp only)))
  (k_with "k_mem" => first | ((with_reducible refine mem_appL ?_); ktr_member) | ((with_reducible refine mem_appR ?_); ktr_member) | ((with_reducible refine mem_raw ?_); ktr_member))
  (k_with "enterC" => (refine' code_defC ?kqk1 ?kqk2 ?kqk3 ?kqk4 ?kqk5 ?kqkA ?kqkF ?kqkK ?kqk6 ?kqk7 ?kqk8 ?kqk9 ?kqkB ?kqkD ?_ ?kqc2 ?kqc3 ?kqc4; (case kqkA => exact rfl); (case kqkF => exact rfl); (case kqkK => assumption); (case kqk1 => k_asm); (case kqk2 => k_asm); (case kqk3 => k_asm); (case kqk4 => k_asm); (case kqk5 => k_asm); (case kqk6 => k_is); (case kqk7 => k_is); (case kqk8 => ktr_room); (case kqk9 => exact BindsTo.of_eq rfl); (case kqkB => exact rfl); (case kqkD => decide +kernel); (case kqc2 => exact rfl); (case kqc3 => exact rfl); (case kqc4 => exact rfl); k_whole; intro g' L' h' tk' cells' FG' F' N' Y' B' X' T' l1; (have l9 := hi_of l1); (have l8 := hi_succ l9); (have l7 := hi_succ2 l9); (have l6 := hi_succ3 l9); (have l5 := hi_succ4 l9); (try k_lt l1); k_cells Y'; (try simp only [List.cons_append, List.nil_append] at N'); (try dsimp only); (try k_fold)))
  (k_with "split" => first | exact Split.app | (refine' Split.cons ?kqx; (case kqx => walk_at "split")) | exact Split.nil)
  (k_with "apart" => first | assumption | exact Apart.nil | (refine' Apart.cons ?kqa ?kqb; (case kqa => walk_at "notin"); (case kqb => walk_at "apart")) | exact Apart.sub (by assumption) (by walk_at "sub"))
  (k_with "kind" => first | exact rfl | assumption)
  (k_with "CompSrc" => (refine hold ?_))
  (k_with "CompEnd" => (refine hold ?_))
  (k_with "gin" => first | assumption | exact gin_here | (refine' gin_app ?kqp; (case kqp => walk_at "gin")) | (refine' gin_cons ?kqp; (case kqp => walk_at "gin")) | exact gin_nil | (refine' gin_two ?kqa ?kqb; (case kqa => k_mem); (case kqb => walk_at "gin")))
  (k_with "len" => first | assumption | exact rfl)
  (k_with "call builtin:len cons nil" => ((with_reducible show wpAny _ _ (call (Value.builtin "len") [Value.ref _]) _ _ _); k_here; k_dflt (refine' len_nb ?kqN ?kqm ?kqhn ?kqh8 ?_; (case kqN => k_asm); (case kqm => k_mem); (case kqhn => exact rfl); (case kqh8 => exact sm4 (by assumption)))))
  (k_with "subscriptTail Name Name ref int" => ((with_reducible show wpAny _ _ (subscriptTail _ _ (Value.ref _) (Value.int _ _)) _ _ _); k_here; k_dflt (refine' item_nb ?kqN ?kqm ?kqk ?kqh9 ?kqx ?_; (case kqN => k_asm); (case kqm => k_mem); (case kqk => exact rfl); (case kqh9 => assumption); (case kqx => assumption))))
  (k_with "eval Name" => ((rename NmMark => mk9); k_here; k_dflt (refine' nameX_L ?kqF ?kqv ?_ ?kqa ?kqb; (case kqa => rfl); (case kqb => rfl); (case kqF => k_asm); (case kqv => walk_at "mlook"); k_whole)))
  (k_with "mlook" => first | (with_reducible assumption) | (refine' look_neg ?kqa ?kqb; (case kqb => decide); (case kqa => walk_at "mlook")) | exact rfl)
  (k_with "call ref" => ((with_reducible show wpAny _ _ (call (Value.ref 84) _) _ _ _); k_here; k_dflt (refine' c_same ?kqB ?kqF ?kqX ?kqN ?kqT ?kqhk ?kqSp ?kqAp ?kqNI ?kqhx ?kqhy ?kqhd ?kqhu ?_; (case kqB => k_asm); (case kqF => k_asm); (case kqX => k_asm); (case kqN => k_asm); (case kqT => k_asm); (case kqhk => walk_at "kind"); (case kqSp => walk_at "split"); (case kqAp => walk_at "apart"); (case kqhd => ktr_room); (case kqhu => ktr_units); (case kqNI => assumption); (case kqhx => k_mem); (case kqhy => k_mem)); intro r' t' nt' h' tk' F' N' Ap' NI'; (have mG' := Net.mG NI'); (have mD' := Net.mdG NI'); (try simp only [List.cons_append, List.nil_append] at N'); (try k_sweep)))
  (k_with "call ref" => ((with_reducible show wpAny _ _ (call (Value.ref 115) _) _ _ _); k_here; k_dflt (refine' c_allN ?kqB ?kqF ?kqX ?kqN ?kqT ?kqhk ?kqSp ?kqAp ?kqNI ?kql0 ?kqhs ?kqhn ?kqh1 ?kqh4 ?kqhd ?kqhu ?_; (case kqB => k_asm); (case kqF => k_asm); (case kqX => k_asm); (case kqN => k_asm); (case kqT => k_asm); (case kqhk => walk_at "kind"); (case kqSp => walk_at "split"); (case kqAp => walk_at "apart"); (case kqhd => ktr_room); (case kqhu => ktr_units); (case kqNI => assumption); (case kql0 => k_mem); (case kqhs => walk_at "gin"); (case kqhn => assumption); (case kqh1 => assumption); (case kqh4 => first | assumption | exact le4)); intro r' t' Z' nt' h' tk' F' N' Ap' NI' sp'; (have mG' := Net.mG NI'); (have mD' := Net.mdG NI'); (try simp only [List.cons_append, List.nil_append] at N'); (try k_sweep)))
  (k_with "call ref" => ((with_reducible show wpAny _ _ (call (Value.ref 103) _) _ _ _); k_here; k_dflt (refine' c_wnotN ?kqB ?kqF ?kqX ?kqN ?kqT ?kqhk ?kqSp ?kqAp ?kqNI ?kql0 ?kqhs ?kqhn ?kqh4 ?kqhd ?kqhu ?_; (case kqB => k_asm); (case kqF => k_asm); (case kqX => k_asm); (case kqN => k_asm); (case kqT => k_asm); (case kqhk => walk_at "kind"); (case kqSp => walk_at "split"); (case kqAp => walk_at "apart"); (case kqhd => ktr_room); (case kqhu => ktr_units); (case kqNI => assumption); (case kql0 => k_mem); (case kqhs => walk_at "gin"); (case kqhn => assumption); (case kqh4 => first | assumption | exact le4)); intro lr' nr' rs' nt' h' tk' F' N' Ap' NI' len' sp' o1'; (have o8' := offD_of o1'); (have mG' := Net.mG NI'); (have mD' := Net.mdG NI'); (try simp only [List.cons_append, List.nil_append] at N'); (try k_sweep)))
  (k_with "call ref" => ((with_reducible show wpAny _ _ (call (Value.ref 56) _) _ _ _); k_here; k_dflt (refine' c_inv ?kqB ?kqF ?kqX ?kqN ?kqT ?kqhk ?kqSp ?kqAp ?kqNI ?kqhx ?kqhd ?kqhu ?_; (case kqB => k_asm); (case kqF => k_asm); (case kqX => k_asm); (case kqN => k_asm); (case kqT => k_asm); (case kqhk => walk_at "kind"); (case kqSp => walk_at "split"); (case kqAp => walk_at "apart"); (case kqhd => ktr_room); (case kqhu => ktr_units); (case kqNI => assumption); (case kqhx => k_mem)); intro r' t' nt' h' tk' F' N' Ap' NI'; (have mG' := Net.mG NI'); (have mD' := Net.mdG NI'); (try simp only [List.cons_append, List.nil_append] at N'); (try k_sweep)))
  trivial
section
variable {prog : Program} {w : World} {mg mb : Str → Option Value} {mean : ExcName → Option Value} {loose : List Str} {dp un : Nat} {gd : Option (List Code)} {cn : Str} {cs : Scope} {L a : Addr} {ccd : Value} {cl : List (Str × Addr)} {outer : List Env} {A₀ : Around}
  {base h₀ : Heap} {m : Str → Option Value} {s : Shared} {Q E : Value → Shared → Prop} {A : NA} {news own nt : List (Addr × Obj)} {gs : List (Int × RF)} {R : Nat}

theorem c_anyN {lu : Addr} {nu n : Nat} {us : List NB}
    (B : Below A₀ base outer h₀) (F : Fr h₀ L s.heap m) (X : (hd93.heap_1 w.params).In h₀) (N : News h₀ L s.heap news) (T : Top hd93.view_1 loose mean mg mb h₀) (hk : cs.kind = .function)
    (Sp : Split news own nt) (Ap : Apart own nt) (NI : Net prog w A nt gs (R + 1 + n + n)) (hl0 : (lu, listOf (vals us) nu) ∈ own) (hs : ∀ p ∈ nets us, p ∈ gs) (hn : us.length = n) (h1 : 1 ≤ n) (h4 : n ≤ 4)
    (hd : dp + 100 < recursionLimit) (hu : un + 800 < cLine)
    (ret : ∀ r t (Z : RF) nt' h' tk', Fr h₀ L h' m → News h₀ L h' (own ++ nt') → Apart own nt' → Net prog w A nt' ((r, Z) :: gs) R → (∀ i, Z i = (num us i != 0)) → Q (.int r t) { s with heap := h', toks := tk' }) :
    wpAny (model prog w) (ktrTop dp un gd cn cs L a ccd cl outer) (call (.ref 122) [.ref A.G, .ref lu]) Q E s := by
  obtain rfl := Sp.eq
  clear Sp
  have mG := NI.mG
  have mD := NI.mdG
  refine wpAny_call ?_
  k_dflt (ktr_enter)
  rename Fr _ _ _ (fun y => List.lookup y _) => F1
  replace F1 : Fr _ _ _ (fun y => List.lookup y [(Str.ofString "u", .ref lu), (Str.ofString "g", .ref A.G)]) := F1
  generalize (Shared.toks s + List.length _) = tk0
  k_steps
  rename News h₀ L _ _ => N5
  rename Net _ _ _ _ _ _ => NI5
  rename Apart _ _ => Ap5
  rename ∀ i, num _ i + num us i + 1 = 2 ^ n => sA
  rename ∀ i, _ = (num _ i == 2 ^ n - 1) => sB
  refine ret _ _ _ _ _ _ (by k_asm) (news_sub N5 fun p hp => .tail _ hp) Ap5.tail (net_fin NI5 (Nat.le_refl _) (gsub_cons (.head _) (gin_cons (gin_cons (gin_app fun _ h => h))))) fun i => ?_
  show (!_) = _
  rw [sB i]
  exact any_spec (sA i)
theorem c_equalN {lu lv : Addr} {nu nv n : Nat} {us vs : List NB}
    (B : Below A₀ base outer h₀) (F : Fr h₀ L s.heap m) (X : (hd93.heap_1 w.params).In h₀) (N : News h₀ L s.heap news) (T : Top hd93.view_1 loose mean mg mb h₀) (hk : cs.kind = .function)
    (Sp : Split news own nt) (Ap : Apart own nt) (NI : Net prog w A nt gs (R + n + 2 * n)) (hl0 : (lu, listOf (vals us) nu) ∈ own) (hl1 : (lv, listOf (vals vs) nv) ∈ own) (hs : ∀ p ∈ nets us, p ∈ gs) (hv : ∀ p ∈ nets vs, p ∈ gs) (hn : us.length = n) (hm : vs.length = n) (h1 : 1 ≤ n) (h4 : n ≤ 4)
    (hd : dp + 80 < recursionLimit) (hu : un + 640 < cLine)
    (ret : ∀ r t (Z : RF) nt' h' tk', Fr h₀ L h' m → News h₀ L h' (own ++ nt') → Apart own nt' → Net prog w A nt' ((r, Z) :: gs) R → (∀ i, Z i = (num us i == num vs i)) → Q (.int r t) { s with heap := h', toks := tk' }) :
    wpAny (model prog w) (ktrTop dp un gd cn cs L a ccd cl outer) (call (.ref 127) [.ref A.G, .ref lu, .ref lv]) Q E s := by
  obtain rfl := Sp.eq
  clear Sp
  subst hn
  have hn : us.length = us.length := rfl
  have le4 : Le4 us.length := h4
  clear h4
  have mG := NI.mG
  have mD := NI.mdG
  refine wpAny_call ?_
  k_dflt (walk_at "enterC")
  rename Obj.data _ = Data.cell (bindC _ _ _ (Str.ofString "v")) => d1
  replace d1 : Obj.data _ = Data.cell (some (.ref lv)) := d1
  rename Obj.data _ = Data.cell (bindC _ _ _ (Str.ofString "u")) => d2
  replace d2 : Obj.data _ = Data.cell (some (.ref lu)) := d2
  rename Obj.data _ = Data.cell (bindC _ _ _ (Str.ofString "g")) => d3
  replace d3 : Obj.data _ = Data.cell (some (.ref A.G)) := d3
  k_steps
  rename News _ _ _ _ => N1
  rename Fr _ _ _ _ => F1
  rename IsRange _ _ _ _ _ _ _ _ => hr
  unfold Hold
  have ru := rng_up (n := us.length) le4
  with_unfolding_all refine LCg.CompSrc.range (n := us.length) (by rfl) F1 N1 hr ru.1 ru.2 (by rw [sizeLine_eq]; exact Nat.le_trans le4 (by decide)) ?_
  intro gg
  refine' cr_inv (CEq prog w A (R + us.length) us.length us vs gs (_ :: _ :: _ :: own)) us.length ?step ?fin us.length 0 [] _ (Nat.zero_add _) ?init
  case init => refine' ⟨[], nt, gs, rfl, rfl, ?ap, NI.le (Nat.le_refl _), (fun p h => nomatch h), (fun p h => h), rfl, fun i => rfl⟩; (case ap => walk_at "apart")
  case step =>
    clear N1 F1 hr
    rintro j ys news hj ⟨rs, nt1, gs1, rfl, rfl, Ap3, NI3, hrs, hgl, hlen, hsp⟩ v I oI C oC D m₂ hh tk E' hv9 hC hx2 F2 N2 off ne
    obtain ⟨tv9, rfl⟩ := hv9
    rw [Int.zero_add] at hx2
    have hj9 : j < 9 := Nat.lt_of_lt_of_le hj (Nat.le_trans le4 (by decide))
    obtain ⟨b, hb⟩ := getL (us := us) rfl hj
    obtain ⟨d, hd9⟩ := getL (us := vs) hm hj
    have hbm := hgl _ (mem_nets hs hb)
    have hdm := hgl _ (mem_nets hv hd9)
    have o9 := offM_of off
    have NI4 : Net prog w A nt1 gs1 ((R + us.length + 2 * (us.length - (j + 1))) + 2) := NI3.le (two_sub hj)
    clear NI3
    have mG := NI4.mG
    have mD := NI4.mdG
    simp only [List.cons_append] at N2 off o9
    k_steps
    unfold Hold
    rename News _ _ _ _ => N5
    rename Net _ _ _ _ _ _ => NI5
    rename Apart _ _ => Ap5
    rename Fr _ _ _ _ => F5
    refine LCg.CompEnd.intro F5 N5 _ (fun _ h => h) (off3_next (Split.cons (Split.cons (Split.cons Split.app))) o9 (fun p hp => List.mem_append_left nt1 hp) Ap5) trivial (ceq_r Ap5.tail.tail.tail NI5 (.head _) (gin_cons hrs) (gin_cons hgl) hlen fun i => ?_)
    rw [andL_app, num_take hb, num_take hd9, hsp i]
    exact eq_bit (Nat.lt_of_lt_of_le (num_lt _ i) (Nat.pow_le_pow_right (by decide) (List.length_take_le _ _))) (Nat.lt_of_lt_of_le (num_lt _ i) (Nat.pow_le_pow_right (by decide) (List.length_take_le _ _)))
  case fin =>
    rintro ys news ⟨rs, nt1, gs1, rfl, rfl, Ap3, NI3, hrs, hgl, hlen, hsp⟩
    have NI4 := NI3.le (R' := R + us.length) (Nat.le_add_right _ _)
    clear NI3
    have mG := NI4.mG
    have mD := NI4.mdG
    k_steps
    rename News h₀ L _ _ => N5
    rename Net _ _ _ _ _ _ => NI5
    rename Apart _ _ => Ap5
    rename ∀ i, _ = (num _ i == 2 ^ us.length - 1) => sB
    refine ret _ _ _ _ _ _ (by k_asm) (news_sub N5 fun p hp => .tail _ (.tail _ (.tail _ (.tail _ hp)))) Ap5.tail.tail.tail.tail (net_fin NI5 (Nat.le_refl _) (gsub_cons (.head _) (gin_cons hgl))) fun i => ?_
    rw [sB i, ← andL_num hlen i, hsp i, List.take_of_length_le (Nat.le_refl _), List.take_of_length_le (Nat.le_of_eq hm)]

end
end Mine93
-- Ziv
namespace Mine93
inductive CAnd (prog : Program) (w : World) (A : NA) (R n : Nat) (us : List NB) (f0 : RF) (gl : List (Int × RF)) (bs : List (Addr × Obj)) (j : Nat) (ys : List Value) (news : List (Addr × Obj)) : Prop
  | mk (rs : List NB) (nt : List (Addr × Obj)) (gs : List (Int × RF)) : ys = rs.map NB.val → news = bs ++ nt → Apart bs nt → Net prog w A nt gs (R + (n - j)) → (∀ p ∈ nets rs, p ∈ gs) → (∀ p ∈ gl, p ∈ gs) → rs.length = j → (∀ i, num rs i = (f0 i).toNat * num (us.take j) i) → CAnd prog w A R n us f0 gl bs j ys news
theorem cand_r {prog : Program} {w : World} {A : NA} {R n j : Nat} {us rs : List NB} {f0 : RF} {gl gs : List (Int × RF)} {bs nt : List (Addr × Obj)} {r : Int} {t : Tok} {f : RF} (Ap : Apart bs nt) (NI : Net prog w A nt gs (R + (n - (j + 1)))) (hm : (r, f) ∈ gs) (hrs : ∀ p ∈ nets rs, p ∈ gs) (hgl : ∀ p ∈ gl, p ∈ gs) (hlen : rs.length = j)
    (sp : ∀ i, num (rs ++ [⟨r, t, f⟩]) i = (f0 i).toNat * num (us.take (j + 1)) i) : CAnd prog w A R n us f0 gl bs (j + 1) (rs.map NB.val ++ [.int r t]) (bs ++ nt) :=
  ⟨rs ++ [⟨r, t, f⟩], nt, gs, by simp, rfl, Ap, NI, nets_app hrs hm, hgl, by simp [hlen], sp⟩
theorem and_step2 {U Y P : Nat} {b d : Bool} (h : Y = d.toNat * U) : Y + (d && b).toNat * P = d.toNat * (U + b.toNat * P) := by
  subst h; cases b <;> cases d <;> simp
theorem nets_repT {k : Nat} {t : Tok} {gs : List (Int × RF)} (h : ((1 : Int), fT) ∈ gs) : ∀ p ∈ nets (List.replicate k ⟨1, t, fT⟩), p ∈ gs := by
  intro p hp
  obtain ⟨x, hx, rfl⟩ := List.mem_map.mp hp
  rw [List.mem_replicate] at hx
  rw [hx.2]; exact h
theorem num_repT {n i : Nat} {t : Tok} : num (List.replicate n ⟨1, t, fT⟩) i = 2 ^ n - 1 := by
  unfold num
  induction n with
  | zero => rfl
  | succ k ih =>
    have e : 2 ^ (k + 1) = 2 * 2 ^ k := by rw [Nat.pow_succ, Nat.mul_comm]
    have e1 : 1 ≤ 2 ^ k := Nat.one_le_two_pow
    have e2 : (fT i).toNat = 1 := rfl
    rw [List.replicate_succ, List.map_cons, nm, ih, e, e2]
    omega
def invN (c : Bool) (n x : Nat) (odd : Bool) : Nat := if (c && x == 2 ^ n - 1) = true then (if odd then 2 ^ n - 1 else 1) else if x = 1 then 1 else 0
theorem inv_T {n x r t v : Nat} {o z q : Bool} (h : r = if z = true then t else v) (hz : z = (x == 2 ^ n - 1)) (ht : t = if o = true then 2 ^ n - 1 else 1) (hv : v = q.toNat * 1) (hq : q = (x == 1)) : r = invN true n x o := by
  subst h hz ht hv hq
  unfold invN
  cases hx : (x == 2 ^ n - 1)
  · by_cases h1 : x = 1 <;> simp [h1]
  · simp
theorem inv_F {n x v : Nat} {o q : Bool} (hv : v = q.toNat * 1) (hq : q = (x == 1)) : v = invN false n x o := by
  subst hv hq
  unfold invN
  by_cases h1 : x = 1 <;> simp [h1]
theorem kwZiv0 : True := by
  k_with_none
  (k_with "room" => first | exact Nat.le_of_ble_eq_true rfl | exact room2 (by assumption) (Nat.le_of_ble_eq_true rfl) | exact room3 (by assumption) (Nat.le_of_ble_eq_true rfl) | exact room1 (by assumption))
  (k_with "units" => first | exact Nat.le_of_ble_eq_true rfl | exact room2 (by assumption) (Nat.le_of_ble_eq_true rfl) | exact room3 (by assumption) (Nat.le_of_ble_eq_true rfl) | exact room1 (by assumption))
  (k_with "call ref" => ((with_reducible show wpAny _ _ (call (Value.ref _) _) _ _ _); refine hold ?_))
  (k_with "gsub" => ((repeat (first | exact fun _ h => h | (refine gsub_cons ?kqmem ?_; (case kqmem => k_mem)) | refine gsub_tail ?_)); done))
  (k_with "lts" => first | exact lt0 (by assumption) | exact lt1 (by assumption) | exact lt2 (by assumption) | exact lt3 (by assumption) | exact lt4 (by assumption) | exact lt5 (by assumption) | exact lt6 (by assumption) | exact lt7 (by assumption) | exact lt8 (by assumption) | exact lt9 (by assumption) | exact lt10 (by assumption) | exact lt11 (by assumption) | exact lt12 (by assumption) | exact lt13 (by assumption) | exact lt14 (by assumption) | exact lt15 (by assumption) | exact lt16 (by assumption) | exact lt17 (by assumption) | exact lt18 (by assumption) | exact lt19 (by assumption))
  (k_with "ina" => first | exact InA.here | (refine' InA.next ?kqp; (case kqp => walk_at "ina")) | fail)
  (k_with "num" => first | exact (show _ = (0 : Int) by decide) | exact (show _ = (1 : Int) by decide) | exact (show _ = (2 : Int) by decide) | exact (show _ = (3 : Int) by decide) | exact (show _ = (4 : Int) by decide) | exact (show _ = (5 : Int) by decide) | exact (show _ = (6 : Int) by decide) | exact (show _ = (7 : Int) by decide) | exact (show _ = (8 : Int) by decide))
  (k_with "FinA" => ((unfold LCg.FinA); intro D' h' tk' F' N' o1'; (have o8' := offD_of o1'); (try simp only [LCg.Off1, and_true] at o1'); (try simp only [List.nil_append, List.cons_append] at N'); (try dsimp only)))
  (k_with "splits" => first | exact Split.app | (refine' Split.cons ?kqx; (case kqx => walk_at "splits")) | exact Split.nil)
  (k_with "sub" => ((repeat (first | exact sub_refl | exact sub_appL | exact sub_appR | (refine sub_cons ?kqmem ?_; (case kqmem => k_mem)) | refine sub_tail ?_)); done))
  (k_with "notin" => first | assumption | exact Apart.at (by assumption) (by k_mem) | exact OffM.notI (by assumption) (by walk_at "sub") | exact OffM.notC (by assumption) (by walk_at "sub") | exact OffM.notD (by assumption) (by walk_at "sub") | exact Hi.not (by assumption) (by walk_at "sub") | exact OffD.not (by assumption) (by walk_at "sub") | exact not_of_lt (by walk_at "lts") (by walk_at "sub"))
  (k_with "k_ne" => ((try dsimp only); first | assumption | exact Ne.symm (by assumption) | (refine' OffD.at ?kqh ?kqm; (case kqh => assumption); (case kqm => walk_at "ina")) | (refine' OffD.at' ?kqh ?kqm; (case kqh => assumption); (case kqm => walk_at "ina")) | exact ne_lt' (by assumption) | exact ne_gt' (by assumption) | fail))
  (k_with "k_all" => first | exact List.forall_mem_nil _ | (refine' List.forall_mem_cons.mpr ⟨?kqa, ?kqb⟩; (case kqa => k_ne); (case kqb => k_all)) | assumption | exact Apart.ne (by assumption) (by k_mem) | (refine all_app ?_ ?_ <;> k_all) | exact Hi.ne (by assumption) (by walk_at "sub") | exact ne_of_lt' (by walk_at "lts") (by walk_at "sub") | exact OffD.ne' (by assumption) (by walk_at "sub"))
  (k_with "eval ListComp" => (k_here; k_dflt (refine LCg.ListComp_U (F₀ := by k_asm) (by with_unfolding_all rfl) (by decide) (by rfl) (by decide) (by rfl) ?_); k_dflt lcg_toSrc))
  (k_with "pull" => first | exact Pull.here | (refine' Pull.next ?kqp; (case kqp => walk_at "pull")))
  (k_with "FinE" => ((unfold LCg.FinE); intro D' h' tk' F' N' o1'; (have o8' := offD_of o1'); (try simp only [LCg.Off1, and_true] at o1'); (try simp only [List.nil_append, List.cons_append] at N'); (try dsimp only)))
  (k_with "k_mem" => first | ((with_reducible refine mem_appL ?_); ktr_member) | ((with_reducible refine mem_appR ?_); ktr_member) | ((with_reducible refine mem_raw ?_); ktr_member))
  (k_with "enterC" => (refine' code_defC ?kqk1 ?kqk2 ?kqk3 ?kqk4 ?kqk5 ?kqkA ?kqkF ?kqkK ?kqk6 ?kqk7 ?kqk8 ?kqk9 ?kqkB ?kqkD ?_ ?kqc2 ?kqc3 ?kqc4; (case kqkA => exact rfl); (case kqkF => exact rfl); (case kqkK => assumption); (case kqk1 => k_asm); (case kqk2 => k_asm); (case kqk3 => k_asm); (case kqk4 => k_asm); (case kqk5 => k_asm); (case kqk6 => k_is); (case kqk7 => k_is); (case kqk8 => ktr_room); (case kqk9 => exact BindsTo.of_eq rfl); (case kqkB => exact rfl); (case kqkD => decide +kernel); (case kqc2 => exact rfl); (case kqc3 => exact rfl); (case kqc4 => exact rfl); k_whole; intro g' L' h' tk' cells' FG' F' N' Y' B' X' T' l1; (have l9 := hi_of l1); (have l8 := hi_succ l9); (have l7 := hi_succ2 l9); (have l6 := hi_succ3 l9); (have l5 := hi_succ4 l9); (try k_lt l1); k_cells Y'; (try simp only [List.cons_append, List.nil_append] at N'); (try dsimp only); (try k_fold)))
  (k_with "split" => first | exact Split.app | (refine' Split.cons ?kqx; (case kqx => walk_at "split")) | exact Split.nil)
  (k_with "apart" => first | assumption | exact Apart.nil | (refine' Apart.cons ?kqa ?kqb; (case kqa => walk_at "notin"); (case kqb => walk_at "apart")) | exact Apart.sub (by assumption) (by walk_at "sub"))
  (k_with "kind" => first | exact rfl | assumption)
  (k_with "CompSrc" => (refine hold ?_))
  (k_with "CompEnd" => (refine hold ?_))
  (k_with "gin" => first | assumption | exact gin_here | (refine' gin_app ?kqp; (case kqp => walk_at "gin")) | (refine' gin_cons ?kqp; (case kqp => walk_at "gin")) | exact gin_nil | (refine' gin_two ?kqa ?kqb; (case kqa => k_mem); (case kqb => walk_at "gin")))
  (k_with "len" => first | assumption | exact rfl)
  (k_with "call builtin:len cons nil" => ((with_reducible show wpAny _ _ (call (Value.builtin "len") [Value.ref _]) _ _ _); k_here; k_dflt (refine' len_nb ?kqN ?kqm ?kqhn ?kqh8 ?_; (case kqN => k_asm); (case kqm => k_mem); (case kqhn => first | assumption | first | assumption | exact rfl); (case kqh8 => exact sm4 (by assumption)))))
  (k_with "call ref" => ((with_reducible show wpAny _ _ (call (Value.ref 155) _) _ _ _); k_here; k_dflt (refine' c_oneN ?kqB ?kqF ?kqX ?kqN ?kqT ?kqhk ?kqSp ?kqAp ?kqNI ?kqh1 ?kqh4 ?kqhd ?kqhu ?_; (case kqB => k_asm); (case kqF => k_asm); (case kqX => k_asm); (case kqN => k_asm); (case kqT => k_asm); (case kqhk => walk_at "kind"); (case kqSp => walk_at "split"); (case kqAp => walk_at "apart"); (case kqhd => ktr_room); (case kqhu => ktr_units); (case kqNI => assumption); (case kqh1 => assumption); (case kqh4 => first | assumption | exact le4)); intro lr' nr' rs' nt' h' tk' F' N' Ap' NI' len' sp' o1'; (have o8' := offD_of o1'); (have mG' := Net.mG NI'); (have mD' := Net.mdG NI'); (try simp only [List.cons_append, List.nil_append] at N'); (try k_sweep)))
  (k_with "call ref" => ((with_reducible show wpAny _ _ (call (Value.ref 127) _) _ _ _); k_here; k_dflt (refine' c_equalN ?kqB ?kqF ?kqX ?kqN ?kqT ?kqhk ?kqSp ?kqAp ?kqNI ?kql0 ?kql1 ?kqhs ?kqhv ?kqhn ?kqhm ?kqh1 ?kqh4 ?kqhd ?kqhu ?_; (case kqB => k_asm); (case kqF => k_asm); (case kqX => k_asm); (case kqN => k_asm); (case kqT => k_asm); (case kqhk => walk_at "kind"); (case kqSp => walk_at "split"); (case kqAp => walk_at "apart"); (case kqhd => ktr_room); (case kqhu => ktr_units); (case kqNI => assumption); (case kql0 => k_mem); (case kql1 => k_mem); (case kqhs => walk_at "gin"); (case kqhv => walk_at "gin"); (case kqhn => assumption); (case kqhm => assumption); (case kqh1 => assumption); (case kqh4 => first | assumption | exact le4)); intro r' t' Z' nt' h' tk' F' N' Ap' NI' sp'; (have mG' := Net.mG NI'); (have mD' := Net.mdG NI'); (try simp only [List.cons_append, List.nil_append] at N'); (try k_sweep)))
  (k_with "call ref" => ((with_reducible show wpAny _ _ (call (Value.ref 63) _) _ _ _); k_here; k_dflt (refine' c_both ?kqB ?kqF ?kqX ?kqN ?kqT ?kqhk ?kqSp ?kqAp ?kqNI ?kqhx ?kqhy ?kqhd ?kqhu ?_; (case kqB => k_asm); (case kqF => k_asm); (case kqX => k_asm); (case kqN => k_asm); (case kqT => k_asm); (case kqhk => walk_at "kind"); (case kqSp => walk_at "split"); (case kqAp => walk_at "apart"); (case kqhd => ktr_room); (case kqhu => ktr_units); (case kqNI => assumption); (case kqhx => k_mem); (case kqhy => k_mem)); intro r' t' nt' h' tk' F' N' Ap' NI'; (have mG' := Net.mG NI'); (have mD' := Net.mdG NI'); (try simp only [List.cons_append, List.nil_append] at N'); (try k_sweep)))
  (k_with "call ref" => ((with_reducible show wpAny _ _ (call (Value.ref 108) _) _ _ _); k_here; k_dflt (refine' c_wmuxN ?kqB ?kqF ?kqX ?kqN ?kqT ?kqhk ?kqSp ?kqAp ?kqNI ?kql0 ?kql1 ?kqhz ?kqhs ?kqhv ?kqhn ?kqhm ?kqh4 ?kqhd ?kqhu ?_; (case kqB => k_asm); (case kqF => k_asm); (case kqX => k_asm); (case kqN => k_asm); (case kqT => k_asm); (case kqhk => walk_at "kind"); (case kqSp => walk_at "split"); (case kqAp => walk_at "apart"); (case kqhd => ktr_room); (case kqhu => ktr_units); (case kqNI => assumption); (case kql0 => k_mem); (case kql1 => k_mem); (case kqhz => k_mem); (case kqhs => walk_at "gin"); (case kqhv => first | walk_at "gin" | exact nets_repT (by k_mem)); (case kqhn => assumption); (case kqhm => first | assumption | exact List.length_replicate); (case kqh4 => first | assumption | exact le4)); intro lr' nr' rs' nt' h' tk' F' N' Ap' NI' len' sp' o1'; (have o8' := offD_of o1'); (have mG' := Net.mG NI'); (have mD' := Net.mdG NI'); (try simp only [List.cons_append, List.nil_append] at N'); (try k_sweep)))
  (k_with "call ref" => ((with_reducible show wpAny _ _ (call (Value.ref 115) _) _ _ _); k_here; k_dflt (refine' c_allN ?kqB ?kqF ?kqX ?kqN ?kqT ?kqhk ?kqSp ?kqAp ?kqNI ?kql0 ?kqhs ?kqhn ?kqh1 ?kqh4 ?kqhd ?kqhu ?_; (case kqB => k_asm); (case kqF => k_asm); (case kqX => k_asm); (case kqN => k_asm); (case kqT => k_asm); (case kqhk => walk_at "kind"); (case kqSp => walk_at "split"); (case kqAp => walk_at "apart"); (case kqhd => ktr_room); (case kqhu => ktr_units); (case kqNI => assumption); (case kql0 => k_mem); (case kqhs => walk_at "gin"); (case kqhn => assumption); (case kqh1 => assumption); (case kqh4 => first | assumption | exact le4)); intro r' t' Z' nt' h' tk' F' N' Ap' NI' sp'; (have mG' := Net.mG NI'); (have mD' := Net.mdG NI'); (try simp only [List.cons_append, List.nil_append] at N'); (try k_sweep)))
  (k_with "binaryOp Mult ref int" => ((with_reducible show wpAny _ _ (binaryOp Operator.Mult (Value.ref _) (Value.int _ _)) _ _ _); k_here; k_dflt (refine' rep_nb fT ?kqF ?kqN ?kqm ?kqk ?kqh ?_; (case kqF => k_asm); (case kqN => k_asm); (case kqm => k_mem); (case kqk => exact rfl); (case kqh => exact sm4 (by assumption))); intro D' h' F' N' l1; (try k_lt l1)))
  trivial
section
variable {prog : Program} {w : World} {mg mb : Str → Option Value} {mean : ExcName → Option Value} {loose : List Str} {dp un : Nat} {gd : Option (List Code)} {cn : Str} {cs : Scope} {L a : Addr} {ccd : Value} {cl : List (Str × Addr)} {outer : List Env} {A₀ : Around}
  {base h₀ : Heap} {m : Str → Option Value} {s : Shared} {Q E : Value → Shared → Prop} {A : NA} {news own nt : List (Addr × Obj)} {gs : List (Int × RF)} {R : Nat}

theorem c_invN {lu : Addr} {nu n : Nat} {us : List NB} {z : Int} {tz : Tok} {o : RF} {b : Bool}
    (B : Below A₀ base outer h₀) (F : Fr h₀ L s.heap m) (X : (hd93.heap_1 w.params).In h₀) (N : News h₀ L s.heap news) (T : Top hd93.view_1 loose mean mg mb h₀) (hk : cs.kind = .function)
    (Sp : Split news own nt) (Ap : Apart own nt) (NI : Net prog w A nt gs (R + 3 * n + n + 3 * n + n + n + 2 * n)) (hl0 : (lu, listOf (vals us) nu) ∈ own) (hs : ∀ p ∈ nets us, p ∈ gs) (hn : us.length = n) (h1 : 1 ≤ n) (h4 : n ≤ 4) (hz : (z, o) ∈ gs)
    (hd : dp + 150 < recursionLimit) (hu : un + 1500 < cLine)
    (ret : ∀ lr nr (rs : List NB) nt' h' tk', Fr h₀ L h' m → News h₀ L h' ((lr, listOf (vals rs) nr) :: (own ++ nt')) → Apart ((lr, listOf (vals rs) nr) :: own) nt' → Net prog w A nt' (nets rs ++ gs) R → rs.length = n → (∀ i, num rs i = invN b n (num us i) (o i)) → LCg.Off1 lr own → Q (.ref lr) { s with heap := h', toks := tk' }) :
    wpAny (model prog w) (ktrTop dp un gd cn cs L a ccd cl outer) (call (.ref 174) [.ref A.G, .ref lu, .int z tz, .bool b]) Q E s := by
  obtain rfl := Sp.eq
  clear Sp
  have le4 : Le4 n := h4
  clear h4
  have mG := NI.mG
  have mD := NI.mdG
  replace NI := NI.one
  refine wpAny_call ?_
  k_dflt (walk_at "enterC")
  rename Fr _ _ _ (fun y => bindL _ _ _ y) => F1
  replace F1 : Fr _ _ _ (fun y => if y = Str.ofString "usigned" then some (.bool b) else if y = Str.ofString "odd" then some (.int z tz) else if y = Str.ofString "u" then some (.ref lu) else none) := F1
  rename Obj.data _ = Data.cell (bindC _ _ _ (Str.ofString "is_one")) => d1
  replace d1 : Obj.data _ = Data.cell none := d1
  rename Obj.data _ = Data.cell (bindC _ _ _ (Str.ofString "g")) => d2
  replace d2 : Obj.data _ = Data.cell (some (.ref A.G)) := d2
  k_steps
  rename News _ _ _ _ => N1
  rename Fr _ _ _ _ => F1
  rename Net _ _ _ _ _ _ => NI1
  rename Apart _ _ => Ap1
  rename ∀ i, Z' i = _ => sE
  rename ∀ i, num rs' i = 1 => s1
  rename rs'.length = n => len1
  unfold Hold
  with_unfolding_all refine LCg.CompSrc.ledger (its := vals rs') (k := nr') (by rfl) F1 N1 (.head _) (by simp [vals, sizeLine_eq, len1]; exact Nat.le_trans le4 (by decide)) ?_
  intro gg
  have sz : (vals rs').size = n := by simp [vals, len1]
  rw [sz]
  refine' cr_inv (CAnd prog w A (R + 3 * n + n + 3 * n) n rs' Z' ((r', Z') :: (nets rs' ++ (1, fT) :: gs)) (_ :: _ :: _ :: own)) n ?step ?fin n 0 [] _ (Nat.zero_add _) ?init
  case init => refine' ⟨[], _, _, rfl, rfl, ?ap, NI1, (fun p h => nomatch h), (fun p h => h), rfl, fun i => (Nat.mul_zero _).symm⟩; (case ap => walk_at "apart")
  case step =>
    clear N1 F1
    rintro j ys news hj ⟨rs, nt1, gs1, rfl, rfl, Ap3, NI3, hrs, hgl, hlen, hsp⟩ v I oI C oC D m₂ hh tk E' hv hC hx2 F2 N2 off ne
    obtain ⟨b, hb⟩ := getL (us := rs') len1 hj
    have ev : v = .int b.n b.t := by
      simp [vals, hb] at hv
      exact hv.symm
    subst ev
    have hbm := hgl _ (.tail _ (List.mem_append_left _ (mem_nets (gs := nets rs') (fun p h => h) hb)))
    have hzm := hgl _ (.head _)
    have o9 := offM_of off
    have NI4 := NI3.le (R' := R + 3 * n + n + 3 * n + (n - (j + 1)) + 1) (one_sub hj)
    clear NI3
    have mG := NI4.mG
    have mD := NI4.mdG
    simp only [List.cons_append] at N2 off o9
    k_steps
    unfold Hold
    rename News _ _ _ _ => N5
    rename Net _ _ _ _ _ _ => NI5
    rename Apart _ _ => Ap5
    rename Fr _ _ _ _ => F5
    refine LCg.CompEnd.intro F5 N5 _ (fun _ h => h) (off3_next (Split.cons (Split.cons (Split.cons Split.app))) o9 (fun p hp => List.mem_append_left nt1 hp) Ap5) (.inr ⟨_, .head _, rfl, _, rfl⟩) (cand_r Ap5.tail.tail.tail NI5 (.head _) (gin_cons hrs) (gin_cons hgl) hlen fun i => ?_)
    rw [num_app, hlen, num_take hb]
    exact and_step2 (hsp i)
  case fin =>
    clear N1 F1 NI1 Ap1
    rintro ys news ⟨rs, nt1, gs1, rfl, rfl, Ap3, NI3, hrs, hgl, hlen, hsp⟩
    have NI4 := NI3.le (R' := R + 3 * n + n + 3 * n) (Nat.le_add_right _ _)
    clear NI3
    have mG := NI4.mG
    have mD := NI4.mdG
    have hgo : ∀ p ∈ nets rs', p ∈ gs1 := fun p hp => hgl p (.tail _ (List.mem_append_left _ hp))
    have hgg : ∀ p ∈ gs, p ∈ gs1 := fun p hp => hgl p (.tail _ (List.mem_append_right _ (.tail _ hp)))
    have hgu : ∀ p ∈ nets us, p ∈ gs1 := fun p hp => hgg p (hs p hp)
    have hz1 := hgg _ hz
    have h1T := hgl (1, fT) (.tail _ (List.mem_append_right _ (.head _)))
    k_steps
    · rename News h₀ L _ _ => N9
      rename Net _ _ _ _ _ _ => NI9
      rename Apart _ _ => Ap9
      rename OffD _ (_ :: _ :: _ :: _ :: _ :: _ :: _ :: own) => o9
      rename ∀ i, num _ i = if o i = true then _ else _ => sB
      rename ∀ i, _ = (num us i == 2 ^ n - 1) => sC
      rename ∀ i, num _ i = if _ = true then _ else num rs i => sD
      rename b = true => eb
      subst eb
      refine ret _ _ _ _ _ _ (by k_asm) (news_sub (l' := _ :: (own ++ _)) N9 (List.forall_mem_cons.mpr ⟨.head _, fun p hp => .tail _ (.tail _ (.tail _ (.tail _ (.tail _ (.tail _ (.tail _ (.tail _ hp)))))))⟩)) (fun x hx => Ap9 x (List.forall_mem_cons.mpr ⟨.head _, fun p hp => .tail _ (.tail _ (.tail _ (.tail _ (.tail _ (.tail _ (.tail _ (.tail _ hp)))))))⟩ x hx)) (net_fin NI9 (Nat.le_refl _) (gall gin_here (gin_app (gin_cons (gin_app hgg))))) (by assumption) (fun i => ?_) (off1_of fun p hp => o9 p (.tail _ (.tail _ (.tail _ (.tail _ (.tail _ (.tail _ (.tail _ hp))))))))
      have hv := hsp i
      rw [List.take_of_length_le (Nat.le_of_eq len1), s1 i] at hv
      exact inv_T (sD i) (sC i) ((sB i).trans (by rw [num_repT, s1 i])) hv ((sE i).trans (by rw [s1 i]))
    · rename News h₀ L _ _ => N9
      rename OffD _ (_ :: _ :: _ :: own ++ nt1) => o9
      rename b = false => eb
      subst eb
      refine ret _ _ rs _ _ _ (by k_asm) (news_sub (l' := _ :: (own ++ nt1)) N9 (List.forall_mem_cons.mpr ⟨.head _, fun p hp => .tail _ (.tail _ (.tail _ (.tail _ hp)))⟩)) (ap_off3 Ap3.tail.tail.tail o9) (net_fin NI4 (by rw [Nat.add_assoc, Nat.add_assoc]; exact Nat.le_add_right _ _) (gall hrs hgg)) hlen (fun i => ?_) (off1_of fun p hp => o9 p (.tail _ (.tail _ (.tail _ (List.mem_append_left _ hp)))))
      have hv := hsp i
      rw [List.take_of_length_le (Nat.le_of_eq len1), s1 i] at hv
      exact inv_F hv ((sE i).trans (by rw [s1 i]))

end
end Mine93
-- Zpw
namespace Mine93
section
variable {prog : Program} {w : World} {A : Around} {E : Value → Shared → Prop} {s : Shared} {h₀ : Heap} {L a b : Addr} {m : Str → Option Value} {news : List (Addr × Obj)} {us vs : List NB} {ea eb k : Nat} {Q : Value → Shared → Prop} {value slice : PySem.Expr} {tv : Tok}
theorem slice_neg (F : Fr h₀ L s.heap m) (N : News h₀ L s.heap news) (ha : (a, listOf (vals us) ea) ∈ news) (hl : us.length = k + 1) (h3 : k < 9)
    (h : ∀ D h', Fr h₀ L h' m → News h₀ L h' ((D, listOf (vals (us.take k)) 0) :: news) → (∀ p ∈ news, p.1 < D) → Q (.ref D) { s with heap := h' })
    (hs : subscripted slice false (.ref a) (.ref s.heap.objs.size) = operate [.ref s.heap.objs.size, .ref a] (getItem (.ref a) (.ref s.heap.objs.size))) :
    wpAny (model prog w) A (subscriptTail value slice (.ref a) (.ref s.heap.objs.size)) Q E { s with heap := s.heap.push { cls := .type "slice", data := .fields #[.none, .int (-1) tv, .none] } } := by
  refine kba_turn (value' := PySem.Expr.Name (PySem.Str.ofString "_") ⟨0, 0, 0, 0⟩) (fun _ => rfl) ?_
  refine kmk_slice F N (News.isList N ha) IsPart.none (IsPart.int (-1) tv) (fun D h' F' N' l => h D h' F' ?_ l) hs (fun _ => rfl) (by simp [vals, sizeLine_eq]; omega)
  have hv : (vals us).size = k + 1 := by simp [vals, hl]
  have e : sliceBounds none (some (-1)) none (vals us).size = (((0 : Nat) : Int), ((k : Nat) : Int), 1) := by
    rw [hv]
    simp only [sliceBounds, Option.getD_none, show (1 : Int) > 0 by decide, if_true, if_pos (show (-1 : Int) < 0 by decide)]
    congr 1
    congr 1
    omega
  rw [kmk_pick_nat _ e] at N'
  have e2 : (((vals us).toList.drop 0).take (k - 0)).toArray = vals (us.take k) := by simp [vals, List.map_take]
  rw [e2] at N'
  exact N'
end
def powN (b c : Bool) (n m x y : Nat) : Nat := if (b && decide (2 ^ (m - 1) ≤ y)) = true then invN c n x (y % 2 == 1) else x ^ y % 2 ^ n
theorem pw_le (R n : Nat) : R ≤ R + 3 * n + 3 * n + n + 3 * n + n + n + 2 * n := by omega
theorem pw_a {n k x y r : Nat} {c d : Bool} (hd : d = false) (h : r = x ^ y % 2 ^ n) : r = powN d c n (k + 1) x y := by
  subst hd; unfold powN; simpa using h
theorem pw_b {n k x y yk r : Nat} {c d bb : Bool} (hb : bb = false) (hy : y = yk + bb.toNat * 2 ^ k) (hl : yk < 2 ^ k) (h : r = x ^ y % 2 ^ n) : r = powN d c n (k + 1) x y := by
  subst hb
  have e : decide (2 ^ (k + 1 - 1) ≤ y) = false := decide_eq_false (by rw [hy]; simpa using hl)
  unfold powN
  rw [e, Bool.and_false, if_neg Bool.false_ne_true]
  exact h
theorem pw_c {n k x y yk r ra iv : Nat} {c d bb o : Bool} (hd : d = true) (hy : y = yk + bb.toNat * 2 ^ k) (hl : yk < 2 ^ k) (ho : o = (y % 2 == 1)) (hr : ra = x ^ yk % 2 ^ n) (hi : iv = invN c n x o) (h : r = if bb = true then iv else ra) : r = powN d c n (k + 1) x y := by
  subst hd
  cases bb
  · refine pw_b rfl hy hl ?_
    rw [h, hr, hy]; simp
  · have e : decide (2 ^ (k + 1 - 1) ≤ y) = true := decide_eq_true (by rw [hy]; simp)
    unfold powN
    rw [e, Bool.and_true, if_pos rfl, ← ho, h, hi]; rfl
theorem pw_low {vs : List NB} {b : NB} {i : Nat} (h : vs[0]? = some b) : b.f i = (num vs i % 2 == 1) := by
  cases vs with
  | nil => simp at h
  | cons x r =>
    have e : x = b := by simpa using h
    subst e
    show _ = (((x.f i).toNat + 2 * num r i) % 2 == 1)
    cases x.f i <;> simp <;> omega
theorem pw_top {vs : List NB} {b : NB} {k i : Nat} (hm : vs.length = k + 1) (hb : vs[k]? = some b) : num vs i = num (vs.take k) i + (b.f i).toNat * 2 ^ k := by
  have h := num_take (i := i) hb
  rw [List.take_of_length_le (Nat.le_of_eq hm)] at h
  exact h
theorem nets_take {us : List NB} {k : Nat} {p : Int × RF} (h : p ∈ nets (us.take k)) : p ∈ nets us := by
  obtain ⟨x, hx, rfl⟩ := List.mem_map.mp h
  exact List.mem_map.mpr ⟨x, List.mem_of_mem_take hx, rfl⟩
theorem kwZpw0 : True := by
  k_with_none
  (k_with "room" => first | exact Nat.le_of_ble_eq_true rfl | exact room2 (by assumption) (Nat.le_of_ble_eq_true rfl) | exact room3 (by assumption) (Nat.le_of_ble_eq_true rfl) | exact room1 (by assumption))
  (k_with "units" => first | exact Nat.le_of_ble_eq_true rfl | exact room2 (by assumption) (Nat.le_of_ble_eq_true rfl) | exact room3 (by assumption) (Nat.le_of_ble_eq_true rfl) | exact room1 (by assumption))
  (k_with "call ref" => ((with_reducible show wpAny _ _ (call (Value.ref _) _) _ _ _); refine hold ?_))
  (k_with "splits" => first | exact Split.app | (refine' Split.cons ?kqx; (case kqx => walk_at "splits")) | exact Split.nil)
  (k_with "sub" => ((repeat (first | exact sub_refl | exact sub_appL | exact sub_appR | (refine sub_cons ?kqmem ?_; (case kqmem => k_mem)) | refine sub_tail ?_)); done))
  (k_with "notin" => first | assumption | exact Apart.at (by assumption) (by k_mem) | exact OffM.notI (by assumption) (by walk_at "sub") | exact OffM.notC (by assumption) (by walk_at "sub") | exact OffM.notD (by assumption) (by walk_at "sub") | exact Hi.not (by assumption) (by walk_at "sub") | exact OffD.not (by assumption) (by walk_at "sub") | exact not_of_lt (by walk_at "lts") (by walk_at "sub"))
  (k_with "k_ne" => ((try dsimp only); first | assumption | exact Ne.symm (by assumption) | (refine' OffD.at ?kqh ?kqm; (case kqh => assumption); (case kqm => walk_at "ina")) | (refine' OffD.at' ?kqh ?kqm; (case kqh => assumption); (case kqm => walk_at "ina")) | exact ne_lt' (by assumption) | exact ne_gt' (by assumption) | fail))
  (k_with "k_all" => first | exact List.forall_mem_nil _ | (refine' List.forall_mem_cons.mpr ⟨?kqa, ?kqb⟩; (case kqa => k_ne); (case kqb => k_all)) | assumption | exact Apart.ne (by assumption) (by k_mem) | (refine all_app ?_ ?_ <;> k_all) | exact Hi.ne (by assumption) (by walk_at "sub") | exact ne_of_lt' (by walk_at "lts") (by walk_at "sub") | exact OffD.ne' (by assumption) (by walk_at "sub"))
  (k_with "pull" => first | exact Pull.here | (refine' Pull.next ?kqp; (case kqp => walk_at "pull")))
  (k_with "k_mem" => first | ((with_reducible refine mem_appL ?_); ktr_member) | ((with_reducible refine mem_appR ?_); ktr_member) | ((with_reducible refine mem_raw ?_); ktr_member))
  (k_with "split" => first | exact Split.app | (refine' Split.cons ?kqx; (case kqx => walk_at "split")) | exact Split.nil)
  (k_with "apart" => first | assumption | exact Apart.nil | (refine' Apart.cons ?kqa ?kqb; (case kqa => walk_at "notin"); (case kqb => walk_at "apart")) | exact Apart.sub (by assumption) (by walk_at "sub"))
  (k_with "kind" => first | exact rfl | assumption)
  (k_with "pyIter ref" => ((with_reducible show wpAny _ _ (pyIter (Value.ref _)) (fun it s₂ => LoopAtV _ _ _ _ _ _ _ _ _ it s₂) _ _); refine hold ?_))
  (k_with "UnrEnd" => (refine hold ?_))
  (k_with "eval Name" => ((rename NmMark => mk9); k_here; k_dflt (refine' nameX_L ?kqF ?kqv ?_ ?kqa ?kqb; (case kqa => rfl); (case kqb => rfl); (case kqF => k_asm); (case kqv => walk_at "mlook"); k_whole)))
  (k_with "mlook" => first | (with_reducible assumption) | (refine' look_neg ?kqa ?kqb; (case kqb => decide); (case kqa => walk_at "mlook")) | exact rfl)
  (k_with "subscriptTail Name Name ref int" => ((with_reducible show wpAny _ _ (subscriptTail _ _ (Value.ref _) (Value.int _ _)) _ _ _); k_here; k_dflt (refine' item_nb ?kqN ?kqm ?kqk ?kqh9 ?kqx ?_; (case kqN => k_asm); (case kqm => k_mem); (case kqk => exact rfl); (case kqh9 => assumption); (case kqx => assumption))))
  (k_with "gin" => first | assumption | exact gin_here | (refine' gin_app ?kqp; (case kqp => walk_at "gin")) | (refine' gin_cons ?kqp; (case kqp => walk_at "gin")) | exact gin_nil | (refine' gin_two ?kqa ?kqb; (case kqa => k_mem); (case kqb => walk_at "gin")))
  (k_with "len" => first | assumption | exact rfl)
  (k_with "call builtin:len cons nil" => ((with_reducible show wpAny _ _ (call (Value.builtin "len") [Value.ref _]) _ _ _); k_here; k_dflt (refine' len_nb ?kqN ?kqm ?kqhn ?kqh8 ?_; (case kqN => k_asm); (case kqm => k_mem); (case kqhn => first | assumption | exact rfl); (case kqh8 => exact sm4 (by assumption)))))
  (k_with "subscriptTail Name Constant ref int" => ((with_reducible show wpAny _ _ (subscriptTail _ _ (Value.ref _) (Value.int _ _)) _ _ _); k_here; k_dflt (refine' item_nb ?kqN ?kqm ?kqk ?kqh9 ?kqx ?_; (case kqN => k_asm); (case kqm => k_mem); (case kqk => exact rfl); (case kqh9 => decide); (case kqx => assumption))))
  (k_with "subscriptTail Name UnaryOp ref int" => ((with_reducible show wpAny _ _ (subscriptTail _ _ (Value.ref _) (Value.int _ _)) _ _ _); k_here; k_dflt (refine' neg_nb ?kqN ?kqm ?kqk ?kqh9 ?kqx ?_; (case kqN => k_asm); (case kqm => k_mem); (case kqk => assumption); (case kqh9 => assumption); (case kqx => assumption))))
  (k_with "subscriptTail Name Slice ref ref" => (k_here; k_dflt (refine' slice_neg ?kqF ?kqN ?kqa ?kqc ?kqz ?_ ?kqs; (case kqF => k_asm); (case kqN => k_asm); (case kqa => k_mem); (case kqc => assumption); (case kqz => assumption); (case kqs => with_unfolding_all rfl)); intro D' h' F' N' l1; (try k_lt l1)))
  (k_with "call ref" => ((with_reducible show wpAny _ _ (call (Value.ref 169) _) _ _ _); k_here; k_dflt (refine' c_raiseN ?kqB ?kqF ?kqX ?kqN ?kqT ?kqhk ?kqSp ?kqAp ?kqNI ?kql0 ?kql1 ?kqhs ?kqhv ?kqhn ?kqhm ?kqh1 ?kqh3 ?kqhm3 ?kqhd ?kqhu ?_; (case kqB => k_asm); (case kqF => k_asm); (case kqX => k_asm); (case kqN => k_asm); (case kqT => k_asm); (case kqhk => walk_at "kind"); (case kqSp => walk_at "split"); (case kqAp => walk_at "apart"); (case kqhd => ktr_room); (case kqhu => ktr_units); (case kql0 => k_mem); (case kql1 => k_mem); (case kqhs => walk_at "gin"); (case kqhv => walk_at "gin"); (case kqhn => assumption); (case kqhm => assumption); (case kqh1 => assumption); (case kqh3 => assumption); (case kqhm3 => assumption); (case kqNI => assumption)); intro lr' nr' rs' nt' h' tk' F' N' Ap' NI' len' sp' o1'; (have o8' := offD_of o1'); (have mG' := Net.mG NI'); (have mD' := Net.mdG NI'); (try simp only [List.cons_append, List.nil_append] at N'); (try k_sweep)))
  (k_with "call ref" => ((with_reducible show wpAny _ _ (call (Value.ref 174) _) _ _ _); k_here; k_dflt (refine' c_invN ?kqB ?kqF ?kqX ?kqN ?kqT ?kqhk ?kqSp ?kqAp ?kqNI ?kql0 ?kqhs ?kqhn ?kqh1 ?kqh4 ?kqhz ?kqhd ?kqhu ?_; (case kqB => k_asm); (case kqF => k_asm); (case kqX => k_asm); (case kqN => k_asm); (case kqT => k_asm); (case kqhk => walk_at "kind"); (case kqSp => walk_at "split"); (case kqAp => walk_at "apart"); (case kqhd => ktr_room); (case kqhu => ktr_units); (case kqNI => assumption); (case kql0 => k_mem); (case kqhs => walk_at "gin"); (case kqhn => assumption); (case kqh1 => assumption); (case kqh4 => exact Nat.le_trans (by assumption) (by decide)); (case kqhz => k_mem)); intro lr' nr' rs' nt' h' tk' F' N' Ap' NI' len' sp' o1'; (have o8' := offD_of o1'); (have mG' := Net.mG NI'); (have mD' := Net.mdG NI'); (try simp only [List.cons_append, List.nil_append] at N'); (try k_sweep)))
  (k_with "call ref" => ((with_reducible show wpAny _ _ (call (Value.ref 108) _) _ _ _); k_here; k_dflt (refine' c_wmuxN ?kqB ?kqF ?kqX ?kqN ?kqT ?kqhk ?kqSp ?kqAp ?kqNI ?kql0 ?kql1 ?kqhz ?kqhs ?kqhv ?kqhn ?kqhm ?kqh4 ?kqhd ?kqhu ?_; (case kqB => k_asm); (case kqF => k_asm); (case kqX => k_asm); (case kqN => k_asm); (case kqT => k_asm); (case kqhk => walk_at "kind"); (case kqSp => walk_at "split"); (case kqAp => walk_at "apart"); (case kqhd => ktr_room); (case kqhu => ktr_units); (case kqNI => assumption); (case kql0 => k_mem); (case kql1 => k_mem); (case kqhz => k_mem); (case kqhs => walk_at "gin"); (case kqhv => walk_at "gin"); (case kqhn => assumption); (case kqhm => assumption); (case kqh4 => exact Nat.le_trans (by assumption) (by decide))); intro lr' nr' rs' nt' h' tk' F' N' Ap' NI' len' sp' o1'; (have o8' := offD_of o1'); (have mG' := Net.mG NI'); (have mD' := Net.mdG NI'); (try simp only [List.cons_append, List.nil_append] at N'); (try k_sweep)))
  trivial
section
variable {prog : Program} {w : World} {mg mb : Str → Option Value} {mean : ExcName → Option Value} {loose : List Str} {dp un : Nat} {gd : Option (List Code)} {cn : Str} {cs : Scope} {L a : Addr} {ccd : Value} {cl : List (Str × Addr)} {outer : List Env} {A₀ : Around}
  {base h₀ : Heap} {m : Str → Option Value} {s : Shared} {Q E : Value → Shared → Prop} {A : NA} {news own nt : List (Addr × Obj)} {gs : List (Int × RF)} {R : Nat}

theorem c_powN {lu lv : Addr} {nu nv n mm : Nat} {us vs : List NB} {c d : Bool}
    (B : Below A₀ base outer h₀) (F : Fr h₀ L s.heap m) (X : (hd93.heap_1 w.params).In h₀) (N : News h₀ L s.heap news) (T : Top hd93.view_1 loose mean mg mb h₀) (hk : cs.kind = .function)
    (Sp : Split news own nt) (Ap : Apart own nt) (NI : Net prog w A nt gs (R + 3 * n + 3 * n + n + 3 * n + n + n + 2 * n + mm * (n * (6 * n) + 3 * n + n * (6 * n)))) (hl0 : (lu, listOf (vals us) nu) ∈ own) (hl1 : (lv, listOf (vals vs) nv) ∈ own) (hs : ∀ p ∈ nets us, p ∈ gs) (hv : ∀ p ∈ nets vs, p ∈ gs) (hn : us.length = n) (hm : vs.length = mm) (h1 : 1 ≤ n) (h3 : n ≤ 3) (q1 : 1 ≤ mm) (q3 : mm ≤ 3)
    (hd : dp + 300 < recursionLimit) (hu : un + 2500 < cLine)
    (ret : ∀ lr nr (rs : List NB) nt' h' tk', Fr h₀ L h' m → News h₀ L h' ((lr, listOf (vals rs) nr) :: (own ++ nt')) → Apart ((lr, listOf (vals rs) nr) :: own) nt' → Net prog w A nt' (nets rs ++ gs) R → rs.length = n → (∀ i, num rs i = powN d c n mm (num us i) (num vs i)) → LCg.Off1 lr own → Q (.ref lr) { s with heap := h', toks := tk' }) :
    wpAny (model prog w) (ktrTop dp un gd cn cs L a ccd cl outer) (call (.ref 181) [.ref A.G, .ref lu, .ref lv, .bool c, .bool d]) Q E s := by
  obtain rfl := Sp.eq
  clear Sp
  obtain ⟨k, rfl⟩ : ∃ k, mm = k + 1 := ⟨mm - 1, by omega⟩
  have hk9 : k < 9 := Nat.lt_of_lt_of_le q3 (by decide)
  have hk3 : k ≤ 3 := Nat.le_of_succ_le q3
  obtain ⟨b, hb⟩ := getL hm (Nat.lt_succ_self k)
  obtain ⟨b0, hb0⟩ := getL hm (Nat.succ_pos k)
  have hbm := mem_nets hv hb
  have hb0m := mem_nets hv hb0
  have ht : ∀ p ∈ nets (vs.take k), p ∈ gs := fun p hp => hv p (nets_take hp)
  have hlt : (vs.take k).length = k := by rw [List.length_take, hm]; exact Nat.min_eq_left (Nat.le_succ k)
  have h100 : vs.length ≤ 100 := hm ▸ Nat.le_trans q3 (by decide)
  have e0 := (NI.eq01 hbm).1
  have NIk := NI.le (R' := R + 3 * n + 3 * n + n + 3 * n + n + n + 2 * n + k * (n * (6 * n) + 3 * n + n * (6 * n))) (Nat.add_le_add_left (Nat.mul_le_mul_right _ (Nat.le_succ k)) _)
  have mG := NI.mG
  have mD := NI.mdG
  refine wpAny_call ?_
  k_dflt (ktr_enter)
  rename Fr _ _ _ (fun y => List.lookup y _) => F1
  replace F1 : Fr _ _ _ (fun y => List.lookup y [(Str.ofString "vsigned", .bool d), (Str.ofString "usigned", .bool c), (Str.ofString "v", .ref lv), (Str.ofString "u", .ref lu), (Str.ofString "g", .ref A.G)]) := F1
  generalize (Shared.toks s + List.length _) = tk0
  k_steps
  all_goals (
    rename News h₀ L _ _ => N9
    rename Net _ _ _ _ _ _ => NI9
    rename Apart _ _ => Ap9
    rename OffD _ _ => o9)
  · rename ∀ i, num _ i = num us i ^ num vs i % 2 ^ n => sA
    exact ret _ _ _ _ _ _ (by k_asm) N9 Ap9 (net_fin NI9 (pw_le R n) (fun _ h => h)) (by assumption) (fun i => pw_b (congrFun (e0 (by assumption)) i) (pw_top hm hb) (num_ltn hlt i) (sA i)) (off1_of o9)
  · rename ∀ i, num _ i = num us i ^ num (vs.take k) i % 2 ^ n => sA
    rename ∀ i, num _ i = invN c n (num us i) (b0.f i) => sB
    rename ∀ i, num _ i = if b.f i = true then _ else _ => sC
    exact ret _ _ _ _ _ _ (by k_asm) (news_sub (l' := _ :: (own ++ _)) N9 (List.forall_mem_cons.mpr ⟨.head _, fun p hp => .tail _ (.tail _ (.tail _ (.tail _ hp)))⟩)) (fun x hx => Ap9 x (List.forall_mem_cons.mpr ⟨.head _, fun p hp => .tail _ (.tail _ (.tail _ (.tail _ hp)))⟩ x hx)) (net_fin NI9 (Nat.le_refl _) (gall gin_here (gin_app (gin_app (gin_app fun _ h => h))))) (by assumption) (fun i => pw_c (by assumption) (pw_top hm hb) (num_ltn hlt i) (pw_low hb0) (sA i) (sB i) (sC i)) (off1_of fun p hp => o9 p (.tail _ (.tail _ (.tail _ hp))))
  · rename ∀ i, num _ i = num us i ^ num vs i % 2 ^ n => sA
    exact ret _ _ _ _ _ _ (by k_asm) N9 Ap9 (net_fin NI9 (pw_le R n) (fun _ h => h)) (by assumption) (fun i => pw_a (by assumption) (sA i)) (off1_of o9)

end
end Mine93
-- Zcl
namespace Mine93
theorem clg_bud {R k n : Nat} (h3 : n ≤ 4) (q3 : k ≤ 3) : R + k + 1 + n + n ≤ R + 100 + 6 * (n - n) := by omega
theorem num_bits {rs : List NB} {k y i : Nat} (hl : rs.length = k) (h : ∀ b, b < k → bitAt rs b i = y.testBit b) : num rs i = y % 2 ^ k := by
  refine Nat.eq_of_testBit_eq fun b => ?_
  rw [Nat.testBit_mod_two_pow]
  by_cases hb : b < k
  · obtain ⟨x, hx⟩ := getL hl hb
    rw [decide_eq_true hb, Bool.true_and, ← h b hb, bitAt_at hx, bit_num hx]
  · rw [decide_eq_false hb, Bool.false_and]
    exact Nat.testBit_lt_two_pow (Nat.lt_of_lt_of_le (num_ltn hl i) (Nat.pow_le_pow_right (by decide) (Nat.le_of_not_lt hb)))
theorem clg_bit (n x b : Nat) : (decide (2 ^ (n - n) ≤ x) && (Nat.log2 x + 1).testBit b) = (if 1 ≤ x then Nat.log2 x + 1 else 0).testBit b := by
  rw [Nat.sub_self, Nat.pow_zero]
  by_cases h : 1 ≤ x
  · rw [decide_eq_true h, if_pos h, Bool.true_and]
  · rw [decide_eq_false h, if_neg h, Bool.false_and, Nat.zero_testBit]
theorem b_clg : ∀ n < 5, 1 ≤ n → ∀ u < 2 ^ n, ∀ k < 4, (u != 0).toNat * ((if 1 ≤ (u + 2 ^ n - 1) % 2 ^ n then Nat.log2 ((u + 2 ^ n - 1) % 2 ^ n) + 1 else 0) % 2 ^ k) = clogN u % 2 ^ k := by decide +kernel
theorem kwZcl0 : True := by
  k_with_none
  (k_with "room" => first | exact Nat.le_of_ble_eq_true rfl | exact room2 (by assumption) (Nat.le_of_ble_eq_true rfl) | exact room3 (by assumption) (Nat.le_of_ble_eq_true rfl) | exact room1 (by assumption))
  (k_with "units" => first | exact Nat.le_of_ble_eq_true rfl | exact room2 (by assumption) (Nat.le_of_ble_eq_true rfl) | exact room3 (by assumption) (Nat.le_of_ble_eq_true rfl) | exact room1 (by assumption))
  (k_with "call ref" => ((with_reducible show wpAny _ _ (call (Value.ref _) _) _ _ _); refine hold ?_))
  (k_with "splits" => first | exact Split.app | (refine' Split.cons ?kqx; (case kqx => walk_at "splits")) | exact Split.nil)
  (k_with "sub" => ((repeat (first | exact sub_refl | exact sub_appL | exact sub_appR | (refine sub_cons ?kqmem ?_; (case kqmem => k_mem)) | refine sub_tail ?_)); done))
  (k_with "gsub" => ((repeat (first | exact fun _ h => h | (refine gsub_cons ?kqmem ?_; (case kqmem => k_mem)) | refine gsub_tail ?_)); done))
  (k_with "lts" => first | exact lt0 (by assumption) | exact lt1 (by assumption) | exact lt2 (by assumption) | exact lt3 (by assumption) | exact lt4 (by assumption) | exact lt5 (by assumption) | exact lt6 (by assumption) | exact lt7 (by assumption) | exact lt8 (by assumption) | exact lt9 (by assumption) | exact lt10 (by assumption) | exact lt11 (by assumption) | exact lt12 (by assumption) | exact lt13 (by assumption) | exact lt14 (by assumption) | exact lt15 (by assumption) | exact lt16 (by assumption) | exact lt17 (by assumption) | exact lt18 (by assumption) | exact lt19 (by assumption))
  (k_with "notin" => first | assumption | exact Apart.at (by assumption) (by k_mem) | exact OffM.notI (by assumption) (by walk_at "sub") | exact OffM.notC (by assumption) (by walk_at "sub") | exact OffM.notD (by assumption) (by walk_at "sub") | exact Hi.not (by assumption) (by walk_at "sub") | exact OffD.not (by assumption) (by walk_at "sub") | exact not_of_lt (by walk_at "lts") (by walk_at "sub"))
  (k_with "ina" => first | exact InA.here | (refine' InA.next ?kqp; (case kqp => walk_at "ina")) | fail)
  (k_with "k_ne" => ((try dsimp only); first | assumption | exact Ne.symm (by assumption) | (refine' OffD.at ?kqh ?kqm; (case kqh => assumption); (case kqm => walk_at "ina")) | (refine' OffD.at' ?kqh ?kqm; (case kqh => assumption); (case kqm => walk_at "ina")) | exact ne_lt' (by assumption) | exact ne_gt' (by assumption) | fail))
  (k_with "k_all" => first | exact List.forall_mem_nil _ | (refine' List.forall_mem_cons.mpr ⟨?kqa, ?kqb⟩; (case kqa => k_ne); (case kqb => k_all)) | assumption | exact Apart.ne (by assumption) (by k_mem) | (refine all_app ?_ ?_ <;> k_all) | exact Hi.ne (by assumption) (by walk_at "sub") | exact ne_of_lt' (by walk_at "lts") (by walk_at "sub") | exact OffD.ne' (by assumption) (by walk_at "sub"))
  (k_with "subscriptTail Name Name ref int" => (k_here; (with_reducible show wpAny _ _ (subscriptTail _ _ (Value.ref _) (Value.int _ _)) _ _ _); k_dflt (refine' item_own_neg ?kqN ?kqm ?kqa ?kqb ?kqc ?kqx ?_; (case kqN => k_asm); (case kqm => k_mem); (case kqa => decide); (case kqb => decide); (case kqc => decide); (case kqx => rfl))))
  (k_with "subscriptTail Name Name ref int" => (k_here; (with_reducible show wpAny _ _ (subscriptTail _ _ (Value.ref _) (Value.int _ _)) _ _ _); k_dflt (refine' item_own ?kqN ?kqm ?kqa ?kqb ?kqx ?_; (case kqN => k_asm); (case kqm => k_mem); (case kqa => decide); (case kqb => decide); (case kqx => rfl))))
  (k_with "subscriptTail Name BinOp ref int" => (k_here; (with_reducible show wpAny _ _ (subscriptTail _ _ (Value.ref _) (Value.int _ _)) _ _ _); k_dflt (refine' item_own_neg ?kqN ?kqm ?kqa ?kqb ?kqc ?kqx ?_; (case kqN => k_asm); (case kqm => k_mem); (case kqa => decide); (case kqb => decide); (case kqc => decide); (case kqx => rfl))))
  (k_with "subscriptTail Name BinOp ref int" => (k_here; (with_reducible show wpAny _ _ (subscriptTail _ _ (Value.ref _) (Value.int _ _)) _ _ _); k_dflt (refine' item_own ?kqN ?kqm ?kqa ?kqb ?kqx ?_; (case kqN => k_asm); (case kqm => k_mem); (case kqa => decide); (case kqb => decide); (case kqx => rfl))))
  (k_with "subscriptTail Name UnaryOp ref int" => (k_here; (with_reducible show wpAny _ _ (subscriptTail _ _ (Value.ref _) (Value.int _ _)) _ _ _); k_dflt (refine' item_own_neg ?kqN ?kqm ?kqa ?kqb ?kqc ?kqx ?_; (case kqN => k_asm); (case kqm => k_mem); (case kqa => decide); (case kqb => decide); (case kqc => decide); (case kqx => rfl))))
  (k_with "subscriptTail Name UnaryOp ref int" => (k_here; (with_reducible show wpAny _ _ (subscriptTail _ _ (Value.ref _) (Value.int _ _)) _ _ _); k_dflt (refine' item_own ?kqN ?kqm ?kqa ?kqb ?kqx ?_; (case kqN => k_asm); (case kqm => k_mem); (case kqa => decide); (case kqb => decide); (case kqx => rfl))))
  (k_with "subscriptTail Name Constant ref int" => (k_here; (with_reducible show wpAny _ _ (subscriptTail _ _ (Value.ref _) (Value.int _ _)) _ _ _); k_dflt (refine' item_own_neg ?kqN ?kqm ?kqa ?kqb ?kqc ?kqx ?_; (case kqN => k_asm); (case kqm => k_mem); (case kqa => decide); (case kqb => decide); (case kqc => decide); (case kqx => rfl))))
  (k_with "subscriptTail Name Constant ref int" => (k_here; (with_reducible show wpAny _ _ (subscriptTail _ _ (Value.ref _) (Value.int _ _)) _ _ _); k_dflt (refine' item_own ?kqN ?kqm ?kqa ?kqb ?kqx ?_; (case kqN => k_asm); (case kqm => k_mem); (case kqa => decide); (case kqb => decide); (case kqx => rfl))))
  (k_with "subscriptTail" => (k_here; (with_reducible show wpAny _ _ (subscriptTail _ _ (Value.ref _) (Value.int _ _)) _ _ _); k_dflt (refine' item_own_neg ?kqN ?kqm ?kqa ?kqb ?kqc ?kqx ?_; (case kqN => k_asm); (case kqm => k_mem); (case kqa => decide); (case kqb => decide); (case kqc => decide); (case kqx => rfl))))
  (k_with "subscriptTail" => (k_here; (with_reducible show wpAny _ _ (subscriptTail _ _ (Value.ref _) (Value.int _ _)) _ _ _); k_dflt (refine' item_own ?kqN ?kqm ?kqa ?kqb ?kqx ?_; (case kqN => k_asm); (case kqm => k_mem); (case kqa => decide); (case kqb => decide); (case kqx => rfl))))
  (k_with "num" => first | exact (show _ = (0 : Int) by decide) | exact (show _ = (1 : Int) by decide) | exact (show _ = (2 : Int) by decide) | exact (show _ = (3 : Int) by decide) | exact (show _ = (4 : Int) by decide) | exact (show _ = (5 : Int) by decide) | exact (show _ = (6 : Int) by decide) | exact (show _ = (7 : Int) by decide) | exact (show _ = (8 : Int) by decide))
  (k_with "exec For Name Subscript cons nil" => (k_here; (rename Fr _ _ _ _ => lF'); (with_unfolding_all refine' For_invVF lF' ?kqk1 ?kqk2 ?_; (case kqk1 => exact rfl); (case kqk2 => exact rfl); k_whole)))
  (k_with "call builtin:min cons nil" => (k_here; (with_reducible show wpAny _ _ (call (Value.builtin _) [Value.int _ _, Value.int _ _]) _ _ _); k_dflt (refine' min_le_N ?kqab ?kqhh ?kqF ?kqN ?_; (case kqab => decide); (case kqhh => exact rfl); (case kqF => k_asm); (case kqN => k_asm)); intro h' tk' F' N'; (try k_sweep)))
  (k_with "binaryOp Sub int int" => (k_here; k_dflt (refine' sub_int_k ?kqhk ?_; (case kqhk => walk_at "num"))))
  (k_with "RangeRest" => (with_unfolding_all first | (refine' rr_succ ?kqhv (fun t' h' tk' F' N' => ?_); (case kqhv => walk_at "num")) | (refine RangeRest.zero (fun h' tk' F' N' => ?_))))
  (k_with "pull" => first | exact Pull.here | (refine' Pull.next ?kqp; (case kqp => walk_at "pull")))
  (k_with "UnrEnd" => (k_dflt (refine' unr_end ?kqF ?kqN ?kqp ?kqo ?_; (case kqF => k_asm); (case kqN => k_asm); (case kqp => walk_at "pull"); (case kqo => k_all))))
  (k_with "UnrEnd" => (k_dflt (refine' unr_endL ?kqF ?kqN ?kqp ?kqo ?kqm ?_; (case kqF => k_asm); (case kqN => k_asm); (case kqp => walk_at "pull"); (case kqo => k_all); (case kqm => k_mem))))
  (k_with "pyIter ref" => ((with_reducible show wpAny _ _ (pyIter (Value.ref _)) (fun it s₂ => LoopAtV _ _ _ _ _ _ _ _ _ it s₂) _ _); k_here; k_dflt (refine' iter_listL ?kqhh ?kqF ?kqN ?kqm ?_; (case kqhh => exact rfl); (case kqF => k_asm); (case kqN => k_asm); (case kqm => k_mem)); intro i' l1; (try k_lt l1)))
  (k_with "FinA" => ((unfold LCg.FinA); intro D' h' tk' F' N' o1'; (have o8' := offD_of o1'); (try simp only [LCg.Off1, and_true] at o1'); (try simp only [List.nil_append, List.cons_append] at N'); (try dsimp only)))
  (k_with "k_mem" => first | ((with_reducible refine mem_appL ?_); ktr_member) | ((with_reducible refine mem_appR ?_); ktr_member) | ((with_reducible refine mem_raw ?_); ktr_member))
  (k_with "execs cons Assign cons" => ((with_reducible refine wpAny_execs_cons ?_); try dsimp only))
  (k_with "exec While Compare cons nil" => (k_here; k_dflt (refine whl_start 100 ?_)))
  (k_with "pyIter ref" => ((with_reducible show wpAny _ _ (pyIter (Value.ref _)) (fun it s₂ => LoopAtV _ _ _ _ _ _ _ _ _ it s₂) _ _); k_here; l_hasStore; first | k_rangeUnr | krs_unr))
  (k_with "enterC" => (refine' code_defC ?kqk1 ?kqk2 ?kqk3 ?kqk4 ?kqk5 ?kqkA ?kqkF ?kqkK ?kqk6 ?kqk7 ?kqk8 ?kqk9 ?kqkB ?kqkD ?_ ?kqc2 ?kqc3 ?kqc4; (case kqkA => exact rfl); (case kqkF => exact rfl); (case kqkK => assumption); (case kqk1 => k_asm); (case kqk2 => k_asm); (case kqk3 => k_asm); (case kqk4 => k_asm); (case kqk5 => k_asm); (case kqk6 => k_is); (case kqk7 => k_is); (case kqk8 => ktr_room); (case kqk9 => exact BindsTo.of_eq rfl); (case kqkB => exact rfl); (case kqkD => decide +kernel); (case kqc2 => exact rfl); (case kqc3 => exact rfl); (case kqc4 => exact rfl); k_whole; intro g' L' h' tk' cells' FG' F' N' Y' B' X' T' l1; (have l9 := hi_of l1); (have l8 := hi_succ l9); (have l7 := hi_succ2 l9); (have l6 := hi_succ3 l9); (have l5 := hi_succ4 l9); (try k_lt l1); k_cells Y'; (try simp only [List.cons_append, List.nil_append] at N'); (try dsimp only); (try k_fold)))
  (k_with "split" => first | exact Split.app | (refine' Split.cons ?kqx; (case kqx => walk_at "split")) | exact Split.nil)
  (k_with "apart" => first | assumption | exact Apart.nil | (refine' Apart.cons ?kqa ?kqb; (case kqa => walk_at "notin"); (case kqb => walk_at "apart")) | exact Apart.sub (by assumption) (by walk_at "sub"))
  (k_with "kind" => first | exact rfl | assumption)
  (k_with "call ref" => ((with_reducible show wpAny _ _ (call (Value.ref 56) _) _ _ _); k_here; k_dflt (refine' c_inv ?kqB ?kqF ?kqX ?kqN ?kqT ?kqhk ?kqSp ?kqAp ?kqNI ?kqhx ?kqhd ?kqhu ?_; (case kqB => k_asm); (case kqF => k_asm); (case kqX => k_asm); (case kqN => k_asm); (case kqT => k_asm); (case kqhk => walk_at "kind"); (case kqSp => walk_at "split"); (case kqNI => assumption); (case kqAp => walk_at "apart"); (case kqhx => k_mem); (case kqhd => ktr_room); (case kqhu => ktr_units)); intro r' t' nt' h' tk' F' N' Ap' NI'; (have mG' := Net.mG NI'); (have mD' := Net.mdG NI'); (try simp only [List.cons_append, List.nil_append] at N'); (try k_sweep)))
  (k_with "call ref" => ((with_reducible show wpAny _ _ (call (Value.ref 63) _) _ _ _); k_here; k_dflt (refine' c_both ?kqB ?kqF ?kqX ?kqN ?kqT ?kqhk ?kqSp ?kqAp ?kqNI ?kqhx ?kqhy ?kqhd ?kqhu ?_; (case kqB => k_asm); (case kqF => k_asm); (case kqX => k_asm); (case kqN => k_asm); (case kqT => k_asm); (case kqhk => walk_at "kind"); (case kqSp => walk_at "split"); (case kqNI => assumption); (case kqAp => walk_at "apart"); (case kqhx => k_mem); (case kqhy => k_mem); (case kqhd => ktr_room); (case kqhu => ktr_units)); intro r' t' nt' h' tk' F' N' Ap' NI'; (have mG' := Net.mG NI'); (have mD' := Net.mdG NI'); (try simp only [List.cons_append, List.nil_append] at N'); (try k_sweep)))
  (k_with "call ref" => ((with_reducible show wpAny _ _ (call (Value.ref 70) _) _ _ _); k_here; k_dflt (refine' c_either ?kqB ?kqF ?kqX ?kqN ?kqT ?kqhk ?kqSp ?kqAp ?kqNI ?kqhx ?kqhy ?kqhd ?kqhu ?_; (case kqB => k_asm); (case kqF => k_asm); (case kqX => k_asm); (case kqN => k_asm); (case kqT => k_asm); (case kqhk => walk_at "kind"); (case kqSp => walk_at "split"); (case kqNI => assumption); (case kqAp => walk_at "apart"); (case kqhx => k_mem); (case kqhy => k_mem); (case kqhd => ktr_room); (case kqhu => ktr_units)); intro r' t' nt' h' tk' F' N' Ap' NI'; (have mG' := Net.mG NI'); (have mD' := Net.mdG NI'); (try simp only [List.cons_append, List.nil_append] at N'); (try k_sweep)))
  (k_with "call ref" => ((with_reducible show wpAny _ _ (call (Value.ref 77) _) _ _ _); k_here; k_dflt (refine' c_differ ?kqB ?kqF ?kqX ?kqN ?kqT ?kqhk ?kqSp ?kqAp ?kqNI ?kqhx ?kqhy ?kqhd ?kqhu ?_; (case kqB => k_asm); (case kqF => k_asm); (case kqX => k_asm); (case kqN => k_asm); (case kqT => k_asm); (case kqhk => walk_at "kind"); (case kqSp => walk_at "split"); (case kqNI => assumption); (case kqAp => walk_at "apart"); (case kqhx => k_mem); (case kqhy => k_mem); (case kqhd => ktr_room); (case kqhu => ktr_units)); intro r' t' nt' h' tk' F' N' Ap' NI'; (have mG' := Net.mG NI'); (have mD' := Net.mdG NI'); (try simp only [List.cons_append, List.nil_append] at N'); (try k_sweep)))
  (k_with "call ref" => ((with_reducible show wpAny _ _ (call (Value.ref 84) _) _ _ _); k_here; k_dflt (refine' c_same ?kqB ?kqF ?kqX ?kqN ?kqT ?kqhk ?kqSp ?kqAp ?kqNI ?kqhx ?kqhy ?kqhd ?kqhu ?_; (case kqB => k_asm); (case kqF => k_asm); (case kqX => k_asm); (case kqN => k_asm); (case kqT => k_asm); (case kqhk => walk_at "kind"); (case kqSp => walk_at "split"); (case kqNI => assumption); (case kqAp => walk_at "apart"); (case kqhx => k_mem); (case kqhy => k_mem); (case kqhd => ktr_room); (case kqhu => ktr_units)); intro r' t' nt' h' tk' F' N' Ap' NI'; (have mG' := Net.mG NI'); (have mD' := Net.mdG NI'); (try simp only [List.cons_append, List.nil_append] at N'); (try k_sweep)))
  (k_with "call ref" => ((with_reducible show wpAny _ _ (call (Value.ref 91) _) _ _ _); k_here; k_dflt (refine' c_mux ?kqB ?kqF ?kqX ?kqN ?kqT ?kqhk ?kqSp ?kqAp ?kqNI ?kqhx ?kqhy ?kqhz ?kqhd ?kqhu ?_; (case kqB => k_asm); (case kqF => k_asm); (case kqX => k_asm); (case kqN => k_asm); (case kqT => k_asm); (case kqhk => walk_at "kind"); (case kqSp => walk_at "split"); (case kqNI => assumption); (case kqAp => walk_at "apart"); (case kqhx => k_mem); (case kqhy => k_mem); (case kqhz => k_mem); (case kqhd => ktr_room); (case kqhu => ktr_units)); intro r' t' nt' h' tk' F' N' Ap' NI'; (have mG' := Net.mG NI'); (have mD' := Net.mdG NI'); (try simp only [List.cons_append, List.nil_append] at N'); (try k_sweep)))
  (k_with "pyIter ref" => ((with_reducible show wpAny _ _ (pyIter (Value.ref _)) (fun it s₂ => LoopAtV _ _ _ _ _ _ _ _ _ it s₂) _ _); refine hold ?_))
  (k_with "UnrEnd" => (refine hold ?_))
  (k_with "mlook" => first | (with_reducible assumption) | (refine' look_neg ?kqa ?kqb; (case kqb => decide); (case kqa => walk_at "mlook")) | exact rfl)
  (k_with "last eval Name" => (k_here; k_dflt (first
  | (refine' nameX_L ?kqF ?kqv ?_ ?kqa ?kqb; (case kqa => rfl); (case kqb => rfl); (case kqF => k_asm); (case kqv => walk_at "mlook"); k_whole)
  | (refine' ld ?kqk1 ?kqk2 ?_; (case kqk1 => k_asm); (case kqk2 => walk_at "mlook"); k_whole))))
  (k_with "gin" => first | assumption | exact gin_here | (refine' gin_app ?kqp; (case kqp => walk_at "gin")) | (refine' gin_cons ?kqp; (case kqp => walk_at "gin")) | exact gin_nil | (refine' gin_two ?kqa ?kqb; (case kqa => k_mem); (case kqb => walk_at "gin")))
  (k_with "len" => first | assumption | exact rfl)
  (k_with "gsub2" => first | exact fun _ h => h | (refine' gsub_tail ?kqp; (case kqp => walk_at "gsub2")) | (refine' gsub_app ?kqp; (case kqp => walk_at "gsub2")))
  (k_with "small" => first | assumption | exact small3 (by assumption) | exact small4 (by assumption) | decide)
  (k_with "call builtin:len cons nil" => ((with_reducible show wpAny _ _ (call (Value.builtin "len") [Value.ref _]) _ _ _); k_here; k_dflt (refine' len_nb ?kqN ?kqm ?kqhn ?kqh8 ?_; (case kqN => k_asm); (case kqm => k_mem); (case kqhn => assumption); (case kqh8 => walk_at "small"))))
  (k_with "call type:list cons nil" => ((with_reducible show wpAny _ _ (call (Value.type _) [Value.ref _]) _ _ _); k_here; k_dflt (refine' list_nb ?kqF ?kqN ?kqm ?kqhn ?kqh8 ?_; (case kqF => k_asm); (case kqN => k_asm); (case kqm => k_mem); (case kqhn => assumption); (case kqh8 => walk_at "small")); intro D' c' h' F' N' l1; (try k_lt l1); (try k_sweep)))
  (k_with "subscriptTail Name Name ref int" => ((with_reducible show wpAny _ _ (subscriptTail _ _ (Value.ref _) (Value.int _ _)) _ _ _); k_here; k_dflt (refine' item_nb ?kqN ?kqm ?kqk ?kqh9 ?kqx ?_; (case kqN => k_asm); (case kqm => k_mem); (case kqk => exact rfl); (case kqh9 => assumption); (case kqx => assumption))))
  (k_with "setItem ref int int" => ((with_reducible show wpAny _ _ (setItem (Value.ref _) (Value.int _ _) (Value.int _ _)) _ _ _); k_here; k_dflt (refine' set_nb2 ?kqNI ?kqhm ?kqF ?kqN ?kqk ?kqU ?kqh9 ?kqhl ?_; (case kqNI => assumption); (case kqhm => k_mem); (case kqF => k_asm); (case kqN => k_asm); (case kqk => exact rfl); (case kqU => k_upd); (case kqh9 => assumption); (case kqhl => omega)); intro h' F' N'; (try dsimp only [List.nil_append, List.cons_append] at N'); (try k_sweep)))
  (k_with "size" => first | assumption | exact vals_size (by assumption) | exact rfl)
  (k_with "eval ListComp" => (k_here; k_dflt (refine LCg.ListComp_U (F₀ := by k_asm) (by with_unfolding_all rfl) (by decide) (by rfl) (by decide) (by rfl) ?_); k_dflt lcg_toSrc))
  (k_with "FinE" => ((unfold LCg.FinE); intro D' h' tk' F' N' o1'; (have o8' := offD_of o1'); (try simp only [LCg.Off1, and_true] at o1'); (try simp only [List.nil_append, List.cons_append] at N'); (try dsimp only)))
  (k_with "CompSrc" => (refine hold ?_))
  (k_with "CompEnd" => (refine hold ?_))
  (k_with "call ref" => ((with_reducible show wpAny _ _ (call (Value.ref 155) _) _ _ _); k_here; k_dflt (refine' c_oneN ?kqB ?kqF ?kqX ?kqN ?kqT ?kqhk ?kqSp ?kqAp ?kqNI ?kqh1 ?kqh4 ?kqhd ?kqhu ?_; (case kqB => k_asm); (case kqF => k_asm); (case kqX => k_asm); (case kqN => k_asm); (case kqT => k_asm); (case kqhk => walk_at "kind"); (case kqSp => walk_at "split"); (case kqAp => walk_at "apart"); (case kqhd => ktr_room); (case kqhu => ktr_units); (case kqNI => assumption); (case kqh1 => assumption); (case kqh4 => first | assumption | exact le4)); intro lr' nr' rs' nt' h' tk' F' N' Ap' NI' len' sp' o1'; (have o8' := offD_of o1'); (have mG' := Net.mG NI'); (have mD' := Net.mdG NI'); (try simp only [List.cons_append, List.nil_append] at N'); (try k_sweep)))
  (k_with "call ref" => ((with_reducible show wpAny _ _ (call (Value.ref 141) _) _ _ _); k_here; k_dflt (refine' c_subN ?kqB ?kqF ?kqX ?kqN ?kqT ?kqhk ?kqSp ?kqAp ?kqNI ?kql0 ?kql1 ?kqhs ?kqhv ?kqhn ?kqhm ?kqh4 ?kqhd ?kqhu ?_; (case kqB => k_asm); (case kqF => k_asm); (case kqX => k_asm); (case kqN => k_asm); (case kqT => k_asm); (case kqhk => walk_at "kind"); (case kqSp => walk_at "split"); (case kqAp => walk_at "apart"); (case kqhd => ktr_room); (case kqhu => ktr_units); (case kqNI => assumption); (case kql0 => k_mem); (case kql1 => k_mem); (case kqhs => walk_at "gin"); (case kqhv => walk_at "gin"); (case kqhn => assumption); (case kqhm => assumption); (case kqh4 => first | assumption | exact le4)); intro lr' nr' rs' nt' h' tk' F' N' Ap' NI' len' sp' o1'; (have o8' := offD_of o1'); (have mG' := Net.mG NI'); (have mD' := Net.mdG NI'); (try simp only [List.cons_append, List.nil_append] at N'); (try k_sweep)))
  (k_with "call ref" => ((with_reducible show wpAny _ _ (call (Value.ref 122) _) _ _ _); k_here; k_dflt (refine' c_anyN ?kqB ?kqF ?kqX ?kqN ?kqT ?kqhk ?kqSp ?kqAp ?kqNI ?kql0 ?kqhs ?kqhn ?kqh1 ?kqh4 ?kqhd ?kqhu ?_; (case kqB => k_asm); (case kqF => k_asm); (case kqX => k_asm); (case kqN => k_asm); (case kqT => k_asm); (case kqhk => walk_at "kind"); (case kqSp => walk_at "split"); (case kqAp => walk_at "apart"); (case kqhd => ktr_room); (case kqhu => ktr_units); (case kqNI => assumption); (case kql0 => k_mem); (case kqhs => walk_at "gin"); (case kqhn => assumption); (case kqh1 => assumption); (case kqh4 => first | assumption | exact le4)); intro r' t' Z' nt' h' tk' F' N' Ap' NI' sp'; (have mG' := Net.mG NI'); (have mD' := Net.mdG NI'); (try simp only [List.cons_append, List.nil_append] at N'); (try k_sweep)))
  trivial
section
variable {prog : Program} {w : World} {mg mb : Str → Option Value} {mean : ExcName → Option Value} {loose : List Str} {dp un : Nat} {gd : Option (List Code)} {cn : Str} {cs : Scope} {L a : Addr} {ccd : Value} {cl : List (Str × Addr)} {outer : List Env} {A₀ : Around}
  {base h₀ : Heap} {m : Str → Option Value} {s : Shared} {Q E : Value → Shared → Prop} {A : NA} {news own nt : List (Addr × Obj)} {gs : List (Int × RF)} {R : Nat}

theorem c_clogG {lu : Addr} {nu n k : Nat} {us : List NB} {tw : Tok}
    (B : Below A₀ base outer h₀) (F : Fr h₀ L s.heap m) (X : (hd93.heap_1 w.params).In h₀) (N : News h₀ L s.heap news) (T : Top hd93.view_1 loose mean mg mb h₀) (hk : cs.kind = .function)
    (Sp : Split news own nt) (Ap : Apart own nt) (NI : Net prog w A nt gs (R + 200)) (hl0 : (lu, listOf (vals us) nu) ∈ own) (hs : ∀ p ∈ nets us, p ∈ gs) (hn : us.length = n) (h1 : 1 ≤ n) (h3 : n ≤ 4) (q1 : 1 ≤ k) (q3 : k ≤ 3)
    (hd : dp + 150 < recursionLimit) (hu : un + 1500 < cLine)
    (ret : ∀ lr nr (rs : List NB) nt' h' tk', Fr h₀ L h' m → News h₀ L h' ((lr, listOf (vals rs) nr) :: (own ++ nt')) → Apart ((lr, listOf (vals rs) nr) :: own) nt' → Net prog w A nt' (nets rs ++ gs) R → (rs.length = k) → (∀ i, num rs i = clogN (num us i) % 2 ^ k) → LCg.Off1 lr own → Q (.ref lr) { s with heap := h', toks := tk' }) :
    wpAny (model prog w) (ktrTop dp un gd cn cs L a ccd cl outer) (call (.ref 186) [.ref A.G, .ref lu, .int (k : Int) tw]) Q E s := by
  obtain rfl := Sp.eq
  clear Sp
  have mG := NI.mG
  have mD := NI.mdG
  replace NI := NI.le (R' := R + 100 + 6 * n + 5 * n + n) (by omega)
  replace NI := NI.one
  replace NI := NI.zero
  refine wpAny_call ?_
  k_dflt (walk_at "enterC")
  k_steps
  rename News _ _ _ _ => N1
  rename Fr _ _ _ _ => F1
  rename IsRange _ _ _ _ _ _ _ _ => hr
  rename Net _ _ _ _ _ _ => NI2
  rename Apart _ _ => Ap2
  rename ∀ i, num _ i = (num _ i + 2 ^ n - num _ i) % 2 ^ n => spl
  unfold Hold
  rw [vals_rep] at N1
  have rd := rng_down h1 h3
  have N2 := keep6 N1
  with_unfolding_all refine krs_iter (n := n) (by rfl) hr rd.1 rd.2 F1 N2 ?_
  rename _ < _ ∧ _ < _ ∧ _ < _ ∧ _ < _ ∧ _ < _ ∧ AllLt _ _ => l1D
  have oD := offD5 N2 l1D
  intro I lI
  have hID := lI _ List.mem_cons_self
  dsimp only at hID
  refine' krs_inv (CInv prog w A (R + 100) n k lu tw I ?D ?lr ?bs (nets ?ls ++ gs) (fun i => num ?ls i)) n ?step ?fin n 0 _ _ (Nat.zero_add n) ?init
  case init =>
    refine' ⟨0, _, fF, List.replicate k ⟨0, _, fF⟩, 0, _, _, rfl, ?ap, ?lt, NI2, ?f, ?rs, ?gl, ?len, rfl, rfl, rfl, rfl, rfl, ?ff, ?bit⟩
    case f => k_mem
    case rs => exact nets_rep (by k_mem)
    case gl => refine' gall ?a ?b; (case a => walk_at "gin"); (case b => walk_at "gsub2")
    case len => simp
    case ff => exact fun i => (decide_eq_false (Nat.not_le.mpr (num_ltn (by assumption) i))).symm
    case bit => exact fun b _ i => by rw [bitAt_rep, decide_eq_false (Nat.not_le.mpr (num_ltn (by assumption) i)), Bool.false_and]
    case ap => walk_at "apart"
    case lt => k_lt lI; walk_at "notin"
  case step =>
    rintro j m1 news1 hj ⟨f, tf, ff, rs, c, nt1, gs1, rfl, Ap3, hI, NI3, hf, hrs, hgl, hlen, hm1, hm2, hm3, hm4, hm5, hff, hbit⟩ t hh tk F3 N3
    obtain ⟨p, hp⟩ := split_of hj
    have hp4 := lt4_of hp h3
    have hp1 := down_int hp
    rw [hp1] at F3
    have hp9 : p < 9 := Nat.lt_trans hp4 (by decide)
    obtain ⟨b, hb⟩ := getL (us := _) (p := p) (by assumption) (lt_of_split hp)
    have hbm := mem_nets (fun q hq => hgl q (List.mem_append_left _ hq)) hb
    have NI4 : Net prog w A nt1 gs1 ((R + 100 + 6 * (n - (j + 1))) + 6) := NI3.le (six_sub hj)
    clear NI3
    have mG := NI4.mG
    have mD := NI4.mdG
    simp only [List.cons_append] at N3
    k_steps
    rename News _ _ _ _ => N5
    rename Fr _ _ _ _ => F5
    rename IsRange _ _ _ _ _ _ _ _ => hr2
    rename Net _ _ _ _ _ _ => NI5
    rename Apart _ _ => Ap5
    unfold Hold
    have ru := rng_up (n := k) (Nat.le_trans q3 (by decide))
    with_unfolding_all refine iter_rangeUnr (n := k) (by rfl) hr2 ru.1 ru.2 F5 N5 ?_
    intro I2 lI2
    have hI2I := lI2 _ List.mem_cons_self
    have hI2D := lI2 _ (List.mem_cons_of_mem _ List.mem_cons_self)
    dsimp only at hI2I hI2D
    refine' rr_inv (DInv prog w A (R + 100 + 6 * (n - (j + 1))) k lu tw I2 ?D2 ?lr2 ?it2 ?bs2 ((?h2, fun i => b.f i && !ff i) :: (?f2, fun i => ff i || b.f i) :: gs1) ?h2 ?f2 ?th2 ?tf2 ?tp2 p (bitAt rs) (fun i => b.f i && !ff i)) k ?step2 ?fin2 k 0 _ _ (Nat.zero_add k) ?init2
    case init2 =>
      refine' ⟨rs, _, _, _, (congrArg (List.cons _) (congrArg (List.cons _) (app3 _ _ _ _ _))).symm, Ap5, ?lt, NI5.le (Nat.add_le_add_left (Nat.le_trans q3 (by decide)) _), ?rs, ?gl, hlen, ?m1, ?m2, ?m3, ?m4, ?m5, ?m6, ?m7, ?bit⟩
      case m1 => walk_at "mlook"
      case m2 => walk_at "mlook"
      case m3 => walk_at "mlook"
      case m4 => walk_at "mlook"
      case m5 => walk_at "mlook"
      case m6 => walk_at "mlook"
      case m7 => walk_at "mlook"
      case rs => walk_at "gin"
      case gl => walk_at "gsub"
      case bit => exact fun b _ i => by simp
      case lt => k_lt lI2; walk_at "notin"
    case step2 =>
      rintro b2 m2 news2 hb2 ⟨rs2, c2, nt2, gs2, rfl, Ap4, hI2, NI6, hrs2, hgl2, hlen2, g1, g2, g3, g4, g5, g6, g7, hbit2⟩ t2 hh2 tk2 F4 N4
      rw [Int.zero_add] at F4
      have hb3 := Nat.lt_of_lt_of_le hb2 q3
      have hb9 : b2 < 9 := Nat.lt_trans hb3 (by decide)
      obtain ⟨y, hy⟩ := getL hlen2 hb2
      have hym := mem_nets hrs2 hy
      have hhm := hgl2 _ (.head _)
      have NI7 : Net prog w A nt2 gs2 ((R + 100 + 6 * (n - (j + 1)) + (k - (b2 + 1))) + 1) := NI6.le (one_sub hb2)
      clear NI6
      have mG := NI7.mG
      have mD := NI7.mdG
      simp only [List.cons_append] at N4
      k_steps
      all_goals (
        have bt := b_test p hp4 b2 hb3
        unfold Hold)
      · rename ¬ _ = _ => ht
        rw [decide_eq_false ht] at bt
        refine' UnrEnd.intro ?F ?N _ (fun _ h => h) (off2 lI2 ?hI) ⟨_, _, _, _, rfl, ?Ap, ?hI, net_fin ?NI (Nat.le_refl _) (fun _ h => h), ?rs, ?gl, ?ln, ?m1, ?m2, ?m3, ?m4, ?m5, ?m6, ?m7, bst1 hbit2 hb2 hlen2 hy (by simpa using bt.symm)⟩
        case F => k_asm
        case N => assumption
        case NI => assumption
        case Ap => walk_at "apart"
        case hI => walk_at "notin"
        case rs => first | assumption | (refine' nets_set ?a ?b; (case a => walk_at "gin"); (case b => k_mem))
        case gl => walk_at "gin"
        case ln => first | assumption | exact (List.length_set ..).trans hlen2
        case m1 => walk_at "mlook"
        case m2 => walk_at "mlook"
        case m3 => walk_at "mlook"
        case m4 => walk_at "mlook"
        case m5 => walk_at "mlook"
        case m6 => walk_at "mlook"
        case m7 => walk_at "mlook"
      · rename Builtin.bitAnd _ _ = _ => ht
        rw [decide_eq_true ht] at bt
        refine' UnrEnd.intro ?F ?N _ (fun _ h => h) (off2 lI2 ?hI) ⟨rs2, _, _, _, rfl, ?Ap, ?hI, net_fin ?NI (Nat.le_refl _) (fun _ h => h), ?rs, ?gl, ?ln, ?m1, ?m2, ?m3, ?m4, ?m5, ?m6, ?m7, bst0 hbit2 (by simpa using bt.symm)⟩
        case F => k_asm
        case N => assumption
        case NI => exact NI7.le (Nat.le_succ _)
        case Ap => walk_at "apart"
        case hI => walk_at "notin"
        case rs => first | assumption | (refine' nets_set ?a ?b; (case a => walk_at "gin"); (case b => k_mem))
        case gl => walk_at "gin"
        case ln => first | assumption | exact (List.length_set ..).trans hlen2
        case m1 => walk_at "mlook"
        case m2 => walk_at "mlook"
        case m3 => walk_at "mlook"
        case m4 => walk_at "mlook"
        case m5 => walk_at "mlook"
        case m6 => walk_at "mlook"
        case m7 => walk_at "mlook"
    case fin2 =>
      rintro m2 news2 ⟨rs2, c2, nt2, gs2, rfl, Ap4, hI2, NI6, hrs2, hgl2, hlen2, g1, g2, g3, g4, g5, g6, g7, hbit2⟩ hh2 tk2 F4 N4
      have mG := NI6.mG
      have mD := NI6.mdG
      have hfm := hgl2 _ (.tail _ (.head _))
      dsimp only
      simp only [List.cons_append] at N4
      k_steps
      unfold Hold
      have e1 := split_1 hp
      have e2 := split_2 hp
      have hx : ∀ i, num _ i < 16 := fun i => Nat.lt_of_lt_of_le (num_ltn (us := _) (by assumption) i) (show 2 ^ n ≤ 2 ^ 4 from Nat.pow_le_pow_right (by decide) h3)
      have hbn : ∀ i, b.f i = _ := fun i => bit_num (i := i) hb
      refine' UnrEnd.intro ?F ?N _ (fun _ h => h) (off1' lI ?hI) ⟨_, _, _, rs2, c2, nt2, gs2, rfl, ?Ap, ?hI, net_fin ?NI ?le (fun _ h => h), hfm, hrs2, ?gl, hlen2, ?m1, ?m2, ?m3, ?m4, ?m5, ?ff, ?bit⟩
      case F => k_asm
      case N => assumption
      case NI => exact NI6
      case le => exact Nat.le_add_right _ _
      case Ap => exact Ap4.tail
      case hI => exact Ap4 _ (.head _)
      case gl => exact fun q hq => hgl2 q (.tail _ (.tail _ (hgl q hq)))
      case m1 => walk_at "mlook"
      case m2 => walk_at "mlook"
      case m3 => walk_at "mlook"
      case m4 => walk_at "mlook"
      case m5 => walk_at "mlook"
      case ff => intro i; rw [e2]; have := hff i; rw [e1] at this; (try dsimp only at this ⊢); rw [this, hbn i]; exact b_fin1 _ (hx i) p hp4
      case bit =>
        intro c hc i
        have h1 := hbit2 c hc i
        have h2 := hbit c hc i
        have h4 := hff i
        rw [e1] at h2 h4
        rw [e2]
        try dsimp only at h1 h2 h4 ⊢
        rw [h1, h2, h4, hbn i, decide_eq_true hc, Bool.true_and]
        exact b_fin2 _ (hx i) p hp4 c (Nat.lt_of_lt_of_le hc q3)
  case fin =>
    rintro m1 news1 ⟨f, tf, ff, rs, c, nt1, gs1, rfl, Ap3, hI, NI3, hf, hrs, hgl, hlen, hm1, hm2, hm3, hm4, hm5, hff, hbit⟩ hh tk F3 N3
    have hs1 : ∀ p ∈ nets us, p ∈ gs1 := fun p hp => hgl p (List.mem_append_right _ (hs p hp))
    have hg1 : ∀ p ∈ gs, p ∈ gs1 := fun p hp => hgl p (List.mem_append_right _ hp)
    rename ∀ i, num _ i = 1 => spo
    clear hgl hff hf
    have NI4 := NI3.le (R' := R + k + 1 + n + n) (clg_bud h3 q3)
    clear NI3
    have mG := NI4.mG
    have mD := NI4.mdG
    dsimp only
    simp only [List.cons_append] at N3
    k_steps
    rename News _ _ _ _ => N4
    rename Fr _ _ _ _ => F4
    rename Net _ _ _ _ _ _ => NI5
    rename Apart _ _ => Ap5
    rename ∀ i, _ = (num us i != 0) => sZ
    unfold Hold
    with_unfolding_all refine LCg.CompSrc.ledger (its := vals rs) (k := c) (by rfl) F4 N4 (.head _) (by simp [vals, sizeLine_eq, hlen]; omega) ?_
    intro gg
    have sz : (vals rs).size = k := by simp [vals, hlen]
    rw [sz]
    refine' cr_inv (CAnd prog w A R k rs Z' ((r', Z') :: gs1) (_ :: _ :: _ :: _ :: own)) k ?cstep ?cfin k 0 [] _ (Nat.zero_add _) ?cinit
    case cinit => refine' ⟨[], _, _, rfl, rfl, ?cap, NI5, (fun p h => nomatch h), (fun p h => h), rfl, fun i => (Nat.mul_zero _).symm⟩; (case cap => walk_at "apart")
    case cstep =>
      clear N4 F4 N3 F3 NI5 mG mD
      rintro j ys news hj ⟨rs2, nt2, gs2, rfl, rfl, Ap6, NI6, hrs2, hgl2, hlen2, hsp2⟩ v I oI C oC D m₂ hh2 tk2 E' hv hC hx2 F2 N2 off ne
      obtain ⟨b, hb⟩ := getL (us := rs) hlen hj
      have ev : v = .int b.n b.t := by
        simp [vals, hb] at hv
        exact hv.symm
      subst ev
      have hbm := hgl2 _ (.tail _ (mem_nets hrs hb))
      have hzm := hgl2 _ (.head _)
      have o9 := offM_of off
      have NI7 := NI6.le (R' := R + (k - (j + 1)) + 1) (one_sub hj)
      clear NI6
      have mG := NI7.mG
      have mD := NI7.mdG
      simp only [List.cons_append] at N2 off o9
      k_steps
      unfold Hold
      rename News _ _ _ _ => N5
      rename Net _ _ _ _ _ _ => NI5
      rename Apart _ _ => Ap5
      rename Fr _ _ _ _ => F5
      refine LCg.CompEnd.intro F5 N5 _ (fun _ h => h) (off3_next (Split.cons (Split.cons (Split.cons (Split.cons Split.app)))) o9 (fun p hp => List.mem_append_left nt2 hp) Ap5) (.inr ⟨_, .head _, rfl, _, rfl⟩) (cand_r Ap5.tail.tail.tail NI5 (.head _) (gin_cons hrs2) (gin_cons hgl2) hlen2 fun i => ?_)
      rw [num_app, hlen2, num_take hb]
      exact and_step2 (hsp2 i)
    case cfin =>
      clear N4 F4 N3 F3
      rintro ys news ⟨rs2, nt2, gs2, rfl, rfl, Ap6, NI6, hrs2, hgl2, hlen2, hsp2⟩
      k_steps
      rename News h₀ L _ _ => N9
      rename OffD _ (_ :: _ :: _ :: _ :: own ++ nt2) => o9
      refine ret _ _ rs2 nt2 _ _ (by k_asm) (news_sub (l' := _ :: (own ++ nt2)) N9 (List.forall_mem_cons.mpr ⟨.head _, fun p hp => .tail _ (.tail _ (.tail _ (.tail _ (.tail _ hp))))⟩)) (ap_off4 Ap6.tail.tail.tail.tail o9) (net_fin NI6 (Nat.le_add_right _ _) (gall hrs2 fun p hp => hgl2 p (.tail _ (hg1 p hp)))) hlen2 (fun i => ?_) (off1_of fun p hp => o9 p (.tail _ (.tail _ (.tail _ (.tail _ (List.mem_append_left _ hp))))))
      have h := hsp2 i
      rw [List.take_of_length_le (Nat.le_of_eq hlen), num_bits hlen (y := if 1 ≤ num _ i then Nat.log2 (num _ i) + 1 else 0) fun b hb => (hbit b hb i).trans (clg_bit n _ b), sZ i, spl i, spo i] at h
      exact h.trans (b_clg n (Nat.lt_succ_of_le h3) h1 _ (num_ltn hn i) k (Nat.lt_succ_of_le q3))

end
end Mine93
-- Zpk
namespace Mine93

theorem kwZpk0 : True := by
  k_with_none
  (k_with "room" => first | exact Nat.le_of_ble_eq_true rfl | exact room2 (by assumption) (Nat.le_of_ble_eq_true rfl) | exact room3 (by assumption) (Nat.le_of_ble_eq_true rfl) | exact room1 (by assumption))
  (k_with "units" => first | exact Nat.le_of_ble_eq_true rfl | exact room2 (by assumption) (Nat.le_of_ble_eq_true rfl) | exact room3 (by assumption) (Nat.le_of_ble_eq_true rfl) | exact room1 (by assumption))
  (k_with "splits" => first | exact Split.app | (refine' Split.cons ?kqx; (case kqx => walk_at "splits")) | exact Split.nil)
  (k_with "sub" => ((repeat (first | exact sub_refl | exact sub_appL | exact sub_appR | (refine sub_cons ?kqmem ?_; (case kqmem => k_mem)) | refine sub_tail ?_)); done))
  (k_with "gsub" => ((repeat (first | exact fun _ h => h | (refine gsub_cons ?kqmem ?_; (case kqmem => k_mem)) | refine gsub_tail ?_)); done))
  (k_with "lts" => first | exact lt0 (by assumption) | exact lt1 (by assumption) | exact lt2 (by assumption) | exact lt3 (by assumption) | exact lt4 (by assumption) | exact lt5 (by assumption) | exact lt6 (by assumption) | exact lt7 (by assumption) | exact lt8 (by assumption) | exact lt9 (by assumption) | exact lt10 (by assumption) | exact lt11 (by assumption) | exact lt12 (by assumption) | exact lt13 (by assumption) | exact lt14 (by assumption) | exact lt15 (by assumption) | exact lt16 (by assumption) | exact lt17 (by assumption) | exact lt18 (by assumption) | exact lt19 (by assumption))
  (k_with "notin" => first | assumption | exact Apart.at (by assumption) (by k_mem) | exact OffM.notI (by assumption) (by walk_at "sub") | exact OffM.notC (by assumption) (by walk_at "sub") | exact OffM.notD (by assumption) (by walk_at "sub") | exact Hi.not (by assumption) (by walk_at "sub") | exact OffD.not (by assumption) (by walk_at "sub") | exact not_of_lt (by walk_at "lts") (by walk_at "sub"))
  (k_with "ina" => first | exact InA.here | (refine' InA.next ?kqp; (case kqp => walk_at "ina")) | fail)
  (k_with "k_ne" => ((try dsimp only); first | assumption | exact Ne.symm (by assumption) | (refine' OffD.at ?kqh ?kqm; (case kqh => assumption); (case kqm => walk_at "ina")) | (refine' OffD.at' ?kqh ?kqm; (case kqh => assumption); (case kqm => walk_at "ina")) | exact ne_lt' (by assumption) | exact ne_gt' (by assumption) | fail))
  (k_with "k_all" => first | exact List.forall_mem_nil _ | (refine' List.forall_mem_cons.mpr ⟨?kqa, ?kqb⟩; (case kqa => k_ne); (case kqb => k_all)) | assumption | exact Apart.ne (by assumption) (by k_mem) | (refine all_app ?_ ?_ <;> k_all) | exact Hi.ne (by assumption) (by walk_at "sub") | exact ne_of_lt' (by walk_at "lts") (by walk_at "sub") | exact OffD.ne' (by assumption) (by walk_at "sub"))
  (k_with "subscriptTail Name Name ref int" => (k_here; (with_reducible show wpAny _ _ (subscriptTail _ _ (Value.ref _) (Value.int _ _)) _ _ _); k_dflt (refine' item_own_neg ?kqN ?kqm ?kqa ?kqb ?kqc ?kqx ?_; (case kqN => k_asm); (case kqm => k_mem); (case kqa => decide); (case kqb => decide); (case kqc => decide); (case kqx => rfl))))
  (k_with "subscriptTail Name Name ref int" => (k_here; (with_reducible show wpAny _ _ (subscriptTail _ _ (Value.ref _) (Value.int _ _)) _ _ _); k_dflt (refine' item_own ?kqN ?kqm ?kqa ?kqb ?kqx ?_; (case kqN => k_asm); (case kqm => k_mem); (case kqa => decide); (case kqb => decide); (case kqx => rfl))))
  (k_with "subscriptTail Name BinOp ref int" => (k_here; (with_reducible show wpAny _ _ (subscriptTail _ _ (Value.ref _) (Value.int _ _)) _ _ _); k_dflt (refine' item_own_neg ?kqN ?kqm ?kqa ?kqb ?kqc ?kqx ?_; (case kqN => k_asm); (case kqm => k_mem); (case kqa => decide); (case kqb => decide); (case kqc => decide); (case kqx => rfl))))
  (k_with "subscriptTail Name BinOp ref int" => (k_here; (with_reducible show wpAny _ _ (subscriptTail _ _ (Value.ref _) (Value.int _ _)) _ _ _); k_dflt (refine' item_own ?kqN ?kqm ?kqa ?kqb ?kqx ?_; (case kqN => k_asm); (case kqm => k_mem); (case kqa => decide); (case kqb => decide); (case kqx => rfl))))
  (k_with "subscriptTail Name UnaryOp ref int" => (k_here; (with_reducible show wpAny _ _ (subscriptTail _ _ (Value.ref _) (Value.int _ _)) _ _ _); k_dflt (refine' item_own_neg ?kqN ?kqm ?kqa ?kqb ?kqc ?kqx ?_; (case kqN => k_asm); (case kqm => k_mem); (case kqa => decide); (case kqb => decide); (case kqc => decide); (case kqx => rfl))))
  (k_with "subscriptTail Name UnaryOp ref int" => (k_here; (with_reducible show wpAny _ _ (subscriptTail _ _ (Value.ref _) (Value.int _ _)) _ _ _); k_dflt (refine' item_own ?kqN ?kqm ?kqa ?kqb ?kqx ?_; (case kqN => k_asm); (case kqm => k_mem); (case kqa => decide); (case kqb => decide); (case kqx => rfl))))
  (k_with "subscriptTail Name Constant ref int" => (k_here; (with_reducible show wpAny _ _ (subscriptTail _ _ (Value.ref _) (Value.int _ _)) _ _ _); k_dflt (refine' item_own_neg ?kqN ?kqm ?kqa ?kqb ?kqc ?kqx ?_; (case kqN => k_asm); (case kqm => k_mem); (case kqa => decide); (case kqb => decide); (case kqc => decide); (case kqx => rfl))))
  (k_with "subscriptTail Name Constant ref int" => (k_here; (with_reducible show wpAny _ _ (subscriptTail _ _ (Value.ref _) (Value.int _ _)) _ _ _); k_dflt (refine' item_own ?kqN ?kqm ?kqa ?kqb ?kqx ?_; (case kqN => k_asm); (case kqm => k_mem); (case kqa => decide); (case kqb => decide); (case kqx => rfl))))
  (k_with "subscriptTail" => (k_here; (with_reducible show wpAny _ _ (subscriptTail _ _ (Value.ref _) (Value.int _ _)) _ _ _); k_dflt (refine' item_own_neg ?kqN ?kqm ?kqa ?kqb ?kqc ?kqx ?_; (case kqN => k_asm); (case kqm => k_mem); (case kqa => decide); (case kqb => decide); (case kqc => decide); (case kqx => rfl))))
  (k_with "subscriptTail" => (k_here; (with_reducible show wpAny _ _ (subscriptTail _ _ (Value.ref _) (Value.int _ _)) _ _ _); k_dflt (refine' item_own ?kqN ?kqm ?kqa ?kqb ?kqx ?_; (case kqN => k_asm); (case kqm => k_mem); (case kqa => decide); (case kqb => decide); (case kqx => rfl))))
  (k_with "num" => first | exact (show _ = (0 : Int) by decide) | exact (show _ = (1 : Int) by decide) | exact (show _ = (2 : Int) by decide) | exact (show _ = (3 : Int) by decide) | exact (show _ = (4 : Int) by decide) | exact (show _ = (5 : Int) by decide) | exact (show _ = (6 : Int) by decide) | exact (show _ = (7 : Int) by decide) | exact (show _ = (8 : Int) by decide))
  (k_with "exec For Name Subscript cons nil" => (k_here; (rename Fr _ _ _ _ => lF'); (with_unfolding_all refine' For_invVF lF' ?kqk1 ?kqk2 ?_; (case kqk1 => exact rfl); (case kqk2 => exact rfl); k_whole)))
  (k_with "call builtin:min cons nil" => (k_here; (with_reducible show wpAny _ _ (call (Value.builtin _) [Value.int _ _, Value.int _ _]) _ _ _); k_dflt (refine' min_le_N ?kqab ?kqhh ?kqF ?kqN ?_; (case kqab => decide); (case kqhh => exact rfl); (case kqF => k_asm); (case kqN => k_asm)); intro h' tk' F' N'; (try k_sweep)))
  (k_with "binaryOp Sub int int" => (k_here; k_dflt (refine' sub_int_k ?kqhk ?_; (case kqhk => walk_at "num"))))
  (k_with "RangeRest" => (with_unfolding_all first | (refine' rr_succ ?kqhv (fun t' h' tk' F' N' => ?_); (case kqhv => walk_at "num")) | (refine RangeRest.zero (fun h' tk' F' N' => ?_))))
  (k_with "eval ListComp" => (k_here; k_dflt (refine LCg.ListComp_U (F₀ := by k_asm) (by with_unfolding_all rfl) (by decide) (by rfl) (by decide) (by rfl) ?_); k_dflt lcg_toSrc))
  (k_with "CompSrc" => (k_here; k_dflt (first
  | (refine LCg.CompSrc.ledger (by rfl) (by k_asm) (by k_asm) (by k_mem) (by first | exact Nat.le_of_ble_eq_true rfl | size_fits) ?_; intro g'; lcg_lit)
  | (refine LCg.CompSrc.range (by rfl) (by k_asm) (by k_asm) (by assumption) (by first | decide | rfl) (by first | rfl | decide) (by first | exact Nat.le_of_ble_eq_true rfl | size_fits) ?_; intro g'; lcg_lit))))
  (k_with "CompRest" => (with_unfolding_all first
  | (refine LCg.CompRest.succ ?_; intro v' I' oI' C' oC' D' m' h' tk' E' hv' hC' hx' F' N' off' ne'; (first | lcg_open hv' | (obtain ⟨t9', hv9'⟩ := hv'; subst hv9')); (have o9' := offM_of off'); (try simp only [LCg.Off3, and_true] at off'))
  | refine LCg.CompRest.zero ?_))
  (k_with "CompEnd" => (k_dflt (refine' comp_end ?kqF ?kqN ?kqo ?kqS ?_; (case kqF => k_asm); (case kqN => k_asm); (case kqo => first | exact LCg.Off3.of (by assumption) | (refine' off3_next ?kqSp ?kqm ?kqs ?kqa; (case kqSp => walk_at "splits"); (case kqm => assumption); (case kqs => walk_at "sub"); (case kqa => assumption))); (case kqS => lcg_src))))
  (k_with "pull" => first | exact Pull.here | (refine' Pull.next ?kqp; (case kqp => walk_at "pull")))
  (k_with "UnrEnd" => (k_dflt (refine' unr_end ?kqF ?kqN ?kqp ?kqo ?_; (case kqF => k_asm); (case kqN => k_asm); (case kqp => walk_at "pull"); (case kqo => k_all))))
  (k_with "UnrEnd" => (k_dflt (refine' unr_endL ?kqF ?kqN ?kqp ?kqo ?kqm ?_; (case kqF => k_asm); (case kqN => k_asm); (case kqp => walk_at "pull"); (case kqo => k_all); (case kqm => k_mem))))
  (k_with "pyIter ref" => ((with_reducible show wpAny _ _ (pyIter (Value.ref _)) (fun it s₂ => LoopAtV _ _ _ _ _ _ _ _ _ it s₂) _ _); k_here; k_dflt (refine' iter_listL ?kqhh ?kqF ?kqN ?kqm ?_; (case kqhh => exact rfl); (case kqF => k_asm); (case kqN => k_asm); (case kqm => k_mem)); intro i' l1; (try k_lt l1)))
  (k_with "FinE" => ((unfold LCg.FinE); intro D' h' tk' F' N' o1'; (have o8' := offD_of o1'); (try simp only [LCg.Off1, and_true] at o1'); (try simp only [List.nil_append, List.cons_append] at N'); (try dsimp only)))
  (k_with "FinA" => ((unfold LCg.FinA); intro D' h' tk' F' N' o1'; (have o8' := offD_of o1'); (try simp only [LCg.Off1, and_true] at o1'); (try simp only [List.nil_append, List.cons_append] at N'); (try dsimp only)))
  (k_with "k_mem" => first | ((with_reducible refine mem_appL ?_); ktr_member) | ((with_reducible refine mem_appR ?_); ktr_member) | ((with_reducible refine mem_raw ?_); ktr_member))
  (k_with "execs cons Assign cons" => ((with_reducible refine wpAny_execs_cons ?_); try dsimp only))
  (k_with "exec While Compare cons nil" => (k_here; k_dflt (refine whl_start 100 ?_)))
  (k_with "pyIter ref" => ((with_reducible show wpAny _ _ (pyIter (Value.ref _)) (fun it s₂ => LoopAtV _ _ _ _ _ _ _ _ _ it s₂) _ _); k_here; l_hasStore; first | k_rangeUnr | krs_unr))
  (k_with "enterC" => (refine' code_defC ?kqk1 ?kqk2 ?kqk3 ?kqk4 ?kqk5 ?kqkA ?kqkF ?kqkK ?kqk6 ?kqk7 ?kqk8 ?kqk9 ?kqkB ?kqkD ?_ ?kqc2 ?kqc3 ?kqc4; (case kqkA => exact rfl); (case kqkF => exact rfl); (case kqkK => assumption); (case kqk1 => k_asm); (case kqk2 => k_asm); (case kqk3 => k_asm); (case kqk4 => k_asm); (case kqk5 => k_asm); (case kqk6 => k_is); (case kqk7 => k_is); (case kqk8 => ktr_room); (case kqk9 => exact BindsTo.of_eq rfl); (case kqkB => exact rfl); (case kqkD => decide +kernel); (case kqc2 => exact rfl); (case kqc3 => exact rfl); (case kqc4 => exact rfl); k_whole; intro g' L' h' tk' cells' FG' F' N' Y' B' X' T' l1; (have l9 := hi_of l1); (have l8 := hi_succ l9); (have l7 := hi_succ2 l9); (have l6 := hi_succ3 l9); (have l5 := hi_succ4 l9); (try k_lt l1); k_cells Y'; (try simp only [List.cons_append, List.nil_append] at N'); (try dsimp only); (try k_fold)))
  (k_with "split" => first | exact Split.app | (refine' Split.cons ?kqx; (case kqx => walk_at "split")) | exact Split.nil)
  (k_with "apart" => first | assumption | exact Apart.nil | (refine' Apart.cons ?kqa ?kqb; (case kqa => walk_at "notin"); (case kqb => walk_at "apart")) | exact Apart.sub (by assumption) (by walk_at "sub"))
  (k_with "kind" => first | exact rfl | assumption)
  (k_with "call ref" => ((with_reducible show wpAny _ _ (call (Value.ref 56) _) _ _ _); k_here; k_dflt (refine' c_inv ?kqB ?kqF ?kqX ?kqN ?kqT ?kqhk ?kqSp ?kqAp ?kqNI ?kqhx ?kqhd ?kqhu ?_; (case kqB => k_asm); (case kqF => k_asm); (case kqX => k_asm); (case kqN => k_asm); (case kqT => k_asm); (case kqhk => walk_at "kind"); (case kqSp => walk_at "split"); (case kqNI => assumption); (case kqAp => walk_at "apart"); (case kqhx => k_mem); (case kqhd => ktr_room); (case kqhu => ktr_units)); intro r' t' nt' h' tk' F' N' Ap' NI'; (have mG' := Net.mG NI'); (have mD' := Net.mdG NI'); (try simp only [List.cons_append, List.nil_append] at N'); (try k_sweep)))
  (k_with "call ref" => ((with_reducible show wpAny _ _ (call (Value.ref 63) _) _ _ _); k_here; k_dflt (refine' c_both ?kqB ?kqF ?kqX ?kqN ?kqT ?kqhk ?kqSp ?kqAp ?kqNI ?kqhx ?kqhy ?kqhd ?kqhu ?_; (case kqB => k_asm); (case kqF => k_asm); (case kqX => k_asm); (case kqN => k_asm); (case kqT => k_asm); (case kqhk => walk_at "kind"); (case kqSp => walk_at "split"); (case kqNI => assumption); (case kqAp => walk_at "apart"); (case kqhx => k_mem); (case kqhy => k_mem); (case kqhd => ktr_room); (case kqhu => ktr_units)); intro r' t' nt' h' tk' F' N' Ap' NI'; (have mG' := Net.mG NI'); (have mD' := Net.mdG NI'); (try simp only [List.cons_append, List.nil_append] at N'); (try k_sweep)))
  (k_with "call ref" => ((with_reducible show wpAny _ _ (call (Value.ref 70) _) _ _ _); k_here; k_dflt (refine' c_either ?kqB ?kqF ?kqX ?kqN ?kqT ?kqhk ?kqSp ?kqAp ?kqNI ?kqhx ?kqhy ?kqhd ?kqhu ?_; (case kqB => k_asm); (case kqF => k_asm); (case kqX => k_asm); (case kqN => k_asm); (case kqT => k_asm); (case kqhk => walk_at "kind"); (case kqSp => walk_at "split"); (case kqNI => assumption); (case kqAp => walk_at "apart"); (case kqhx => k_mem); (case kqhy => k_mem); (case kqhd => ktr_room); (case kqhu => ktr_units)); intro r' t' nt' h' tk' F' N' Ap' NI'; (have mG' := Net.mG NI'); (have mD' := Net.mdG NI'); (try simp only [List.cons_append, List.nil_append] at N'); (try k_sweep)))
  (k_with "call ref" => ((with_reducible show wpAny _ _ (call (Value.ref 77) _) _ _ _); k_here; k_dflt (refine' c_differ ?kqB ?kqF ?kqX ?kqN ?kqT ?kqhk ?kqSp ?kqAp ?kqNI ?kqhx ?kqhy ?kqhd ?kqhu ?_; (case kqB => k_asm); (case kqF => k_asm); (case kqX => k_asm); (case kqN => k_asm); (case kqT => k_asm); (case kqhk => walk_at "kind"); (case kqSp => walk_at "split"); (case kqNI => assumption); (case kqAp => walk_at "apart"); (case kqhx => k_mem); (case kqhy => k_mem); (case kqhd => ktr_room); (case kqhu => ktr_units)); intro r' t' nt' h' tk' F' N' Ap' NI'; (have mG' := Net.mG NI'); (have mD' := Net.mdG NI'); (try simp only [List.cons_append, List.nil_append] at N'); (try k_sweep)))
  (k_with "call ref" => ((with_reducible show wpAny _ _ (call (Value.ref 84) _) _ _ _); k_here; k_dflt (refine' c_same ?kqB ?kqF ?kqX ?kqN ?kqT ?kqhk ?kqSp ?kqAp ?kqNI ?kqhx ?kqhy ?kqhd ?kqhu ?_; (case kqB => k_asm); (case kqF => k_asm); (case kqX => k_asm); (case kqN => k_asm); (case kqT => k_asm); (case kqhk => walk_at "kind"); (case kqSp => walk_at "split"); (case kqNI => assumption); (case kqAp => walk_at "apart"); (case kqhx => k_mem); (case kqhy => k_mem); (case kqhd => ktr_room); (case kqhu => ktr_units)); intro r' t' nt' h' tk' F' N' Ap' NI'; (have mG' := Net.mG NI'); (have mD' := Net.mdG NI'); (try simp only [List.cons_append, List.nil_append] at N'); (try k_sweep)))
  (k_with "call ref" => ((with_reducible show wpAny _ _ (call (Value.ref 91) _) _ _ _); k_here; k_dflt (refine' c_mux ?kqB ?kqF ?kqX ?kqN ?kqT ?kqhk ?kqSp ?kqAp ?kqNI ?kqhx ?kqhy ?kqhz ?kqhd ?kqhu ?_; (case kqB => k_asm); (case kqF => k_asm); (case kqX => k_asm); (case kqN => k_asm); (case kqT => k_asm); (case kqhk => walk_at "kind"); (case kqSp => walk_at "split"); (case kqNI => assumption); (case kqAp => walk_at "apart"); (case kqhx => k_mem); (case kqhy => k_mem); (case kqhz => k_mem); (case kqhd => ktr_room); (case kqhu => ktr_units)); intro r' t' nt' h' tk' F' N' Ap' NI'; (have mG' := Net.mG NI'); (have mD' := Net.mdG NI'); (try simp only [List.cons_append, List.nil_append] at N'); (try k_sweep)))
  trivial

abbrev hand (c : Addr) (p q sd : Int) (tp tq ts : Tok) (e : Nat) : Obj := listOf [Value.ref c, .int p tp, .int q tq, .int sd ts].toArray e
section
variable {prog : Program} {w : World} {A : Around} {E : Value → Shared → Prop} {s : Shared} {h₀ : Heap} {L D : Addr} {news : List (Addr × Obj)} {xs : List Value} {ns : List Int} {c : Nat} {k : Int} {t : Tok} {value slice : Expr} {Q : Value → Shared → Prop}
theorem len_ints (N : News h₀ L s.heap news) (hm : (D, listOf xs.toArray c) ∈ news) (hx : IntsAre xs ns) (h8 : ns.length ≤ 63) (h : Q (.int (ns.length : Int) (s.toks + 1)) { s with toks := s.toks + 1 + 1 }) :
    wpAny (model prog w) A (call (.builtin "len") [.ref D]) Q E s :=
  KM.len_K N hm (by rw [List.size_toArray]; exact hx.length) (by omega) h
end
theorem fd_small {prog : Program} {w : World} {A : Around} {E : Value → Shared → Prop} {s : Shared} {a b : Int} {t u : Tok} {Q : Value → Shared → Prop} (h1 : 1 ≤ b) (h2 : b ≤ 100) (h : Q (.int (a.fdiv b) s.toks) { s with toks := s.toks + 1 }) :
    wpAny (model prog w) A (binaryOp .FloorDiv (.int a t) (.int b u)) Q E s := floordiv_int (by omega) h (Or.inl (PyProof.noPylong_small (by omega)))
theorem pick_split {h₀ h : Heap} {L H : Addr} {o : Obj} {news : List (Addr × Obj)} {g : Obj → List (Addr × Obj)} (U : UpdF H o news g) :
    ∃ rest, (∀ p ∈ rest, p.1 ≠ H) ∧ (∀ p, p ∈ news ↔ p ∈ (H, o) :: rest) ∧ (∀ o' h', News h₀ L h' ((H, o') :: rest) → News h₀ L h' (g o')) ∧ (∀ o' p, p ∈ g o' → p ∈ (H, o') :: rest) := by
  obtain ⟨pre, post, rfl, hg, h1, h2⟩ := U.split
  refine ⟨pre ++ post, fun p hp => (List.mem_append.mp hp).elim (h1 p) (h2 p), fun p => ?_, fun o' h' N => ?_, fun o' p hp => ?_⟩
  · simp only [List.mem_append, List.mem_cons]; constructor
    · rintro (h | h | h)
      · exact .inr (.inl h)
      · exact .inl h
      · exact .inr (.inr h)
    · rintro (h | h | h)
      · exact .inr (.inl h)
      · exact .inl h
      · exact .inr (.inr h)
  · rw [hg]
    refine news_sub N fun p hp => ?_
    simp only [List.mem_append, List.mem_cons] at hp ⊢
    rcases hp with h | h | h
    · exact .inr (.inl h)
    · exact .inl h
    · exact .inr (.inr h)
  · rw [hg] at hp
    simp only [List.mem_append, List.mem_cons] at hp ⊢
    rcases hp with h | h | h
    · exact .inr (.inl h)
    · exact .inl h
    · exact .inr (.inr h)
theorem kwZpk1 : True := by
  (k_with "binaryOp FloorDiv int int" => ((with_reducible refine fd_small ?kqa ?kqb ?_); (case kqa => first | assumption | decide); (case kqb => first | assumption | decide)))
  (k_with "call builtin:len cons nil" => ((with_reducible show wpAny _ _ (call (Value.builtin "len") [Value.ref _]) _ _ _); k_here; k_dflt (refine' len_ints ?kqN ?kqm ?kqhx ?kqh8 ?_; (case kqN => k_asm); (case kqm => k_mem); (case kqhx => assumption); (case kqh8 => assumption))))
  (k_with "subscriptTail Subscript Subscript ref int" => ((with_reducible show wpAny _ _ (subscriptTail _ _ (Value.ref _) (Value.int _ _)) _ _ _); k_here; k_dflt (refine' item_ints ?kqN ?kqm ?kqhx ?kqh0 ?kqh8 ?kqh1 ?_; (case kqN => k_asm); (case kqm => k_mem); (case kqhx => assumption); (case kqh0 => assumption); (case kqh8 => assumption); (case kqh1 => omega)); intro v' u'))
  trivial

section
variable {prog : Program} {w : World} {mg mb : Str → Option Value} {mean : ExcName → Option Value} {loose : List Str} {dp un : Nat} {gd : Option (List Code)} {cn : Str} {cs : Scope} {L a : Addr} {ccd : Value} {cl : List (Str × Addr)} {outer : List Env} {A₀ : Around}
  {base h₀ : Heap} {m : Str → Option Value} {s : Shared} {Q E : Value → Shared → Prop} {A : NA} {news own nt : List (Addr × Obj)} {gs : List (Int × RF)} {R : Nat}

theorem c_pick {H c : Addr} {e ec : Nat} {p q sd : Int} {tp tq ts : Tok} {xs : List Value} {ns : List Int} {g : Obj → List (Addr × Obj)} {limit : Int} {tl : Tok}
    (B : Below A₀ base outer h₀) (F : Fr h₀ L s.heap m) (X : (hd93.heap_1 w.params).In h₀) (N : News h₀ L s.heap news) (T : Top hd93.view_1 loose mean mg mb h₀) (hk : cs.kind = .function)
    (U : UpdF H (hand c p q sd tp tq ts e) news g) (hc : (c, listOf xs.toArray ec) ∈ news) (hcH : c ≠ H) (hx : IntsAre xs ns) (h63 : ns.length ≤ 63) (p0 : 0 ≤ p) (p1 : p ≤ ns.length) (hl : 1 ≤ limit) (hl5 : limit ≤ 100) (hd : dp + 20 < recursionLimit) (hu : un + 160 < cLine)
    (ret : ∀ r t p' q' sd' tp' tq' ts' h' tk', 0 ≤ r → r < limit → 0 ≤ p' → p' ≤ (ns.length : Int) → Fr h₀ L h' m → News h₀ L h' (g (hand c p' q' sd' tp' tq' ts' e)) → Q (.int r t) { s with heap := h', toks := tk' }) :
    wpAny (model prog w) (ktrTop dp un gd cn cs L a ccd cl outer) (call (.ref 270) [.ref H, .int limit tl]) Q E s := by
  obtain ⟨rest, hne, hall, hret, _⟩ := pick_split (h₀ := h₀) (h := s.heap) (L := L) U
  have hcr : (c, listOf xs.toArray ec) ∈ rest := ((List.mem_cons.mp ((hall _).mp hc)).resolve_left fun q => hcH (congrArg Prod.fst q))
  replace N : News h₀ L s.heap ((H, hand c p q sd tp tq ts e) :: rest) := news_sub N fun q hq => (hall q).mpr hq
  replace ret : ∀ r t p' q' sd' tp' tq' ts' h' tk', 0 ≤ r → r < limit → 0 ≤ p' → p' ≤ (ns.length : Int) → Fr h₀ L h' m → News h₀ L h' ((H, hand c p' q' sd' tp' tq' ts' e) :: rest) → Q (.int r t) { s with heap := h', toks := tk' } :=
    fun r t p' q' sd' tp' tq' ts' h' tk' a1 a2 a3 a4 F' N' => ret r t p' q' sd' tp' tq' ts' h' tk' a1 a2 a3 a4 F' (hret _ _ N')
  clear U hall hret hc
  refine wpAny_call ?_
  k_dflt (ktr_enter)
  rename Fr _ _ _ (fun y => List.lookup y _) => FN
  replace FN : Fr _ _ _ (fun y9 => List.lookup y9 [(Str.ofString "limit", .int limit tl), (Str.ofString "hand", .ref H)]) := FN
  generalize (Shared.toks s + List.length _) = tk0
  k_steps
  all_goals (
    refine' ret _ _ _ _ _ _ _ _ _ _ ?r0 ?r1 ?p0 ?p1 ?F ?N
    case F => k_asm
    case N => k_asm
    case r0 => exact Int.fmod_nonneg_of_pos _ (by omega)
    case r1 => exact Int.fmod_lt_of_pos _ (by omega)
    case p0 => omega
    case p1 => omega)
end
end Mine93
-- Zso
namespace Mine93

theorem kwZso0 : True := by
  k_with_none
  (k_with "room" => first | exact Nat.le_of_ble_eq_true rfl | exact room2 (by assumption) (Nat.le_of_ble_eq_true rfl) | exact room3 (by assumption) (Nat.le_of_ble_eq_true rfl) | exact room1 (by assumption))
  (k_with "units" => first | exact Nat.le_of_ble_eq_true rfl | exact room2 (by assumption) (Nat.le_of_ble_eq_true rfl) | exact room3 (by assumption) (Nat.le_of_ble_eq_true rfl) | exact room1 (by assumption))
  (k_with "splits" => first | exact Split.app | (refine' Split.cons ?kqx; (case kqx => walk_at "splits")) | exact Split.nil)
  (k_with "sub" => ((repeat (first | exact sub_refl | exact sub_appL | exact sub_appR | (refine sub_cons ?kqmem ?_; (case kqmem => k_mem)) | refine sub_tail ?_)); done))
  (k_with "gsub" => ((repeat (first | exact fun _ h => h | (refine gsub_cons ?kqmem ?_; (case kqmem => k_mem)) | refine gsub_tail ?_)); done))
  (k_with "lts" => first | exact lt0 (by assumption) | exact lt1 (by assumption) | exact lt2 (by assumption) | exact lt3 (by assumption) | exact lt4 (by assumption) | exact lt5 (by assumption) | exact lt6 (by assumption) | exact lt7 (by assumption) | exact lt8 (by assumption) | exact lt9 (by assumption) | exact lt10 (by assumption) | exact lt11 (by assumption) | exact lt12 (by assumption) | exact lt13 (by assumption) | exact lt14 (by assumption) | exact lt15 (by assumption) | exact lt16 (by assumption) | exact lt17 (by assumption) | exact lt18 (by assumption) | exact lt19 (by assumption))
  (k_with "notin" => first | assumption | exact Apart.at (by assumption) (by k_mem) | exact OffM.notI (by assumption) (by walk_at "sub") | exact OffM.notC (by assumption) (by walk_at "sub") | exact OffM.notD (by assumption) (by walk_at "sub") | exact Hi.not (by assumption) (by walk_at "sub") | exact OffD.not (by assumption) (by walk_at "sub") | exact not_of_lt (by walk_at "lts") (by walk_at "sub"))
  (k_with "ina" => first | exact InA.here | (refine' InA.next ?kqp; (case kqp => walk_at "ina")) | fail)
  (k_with "k_ne" => ((try dsimp only); first | assumption | exact Ne.symm (by assumption) | (refine' OffD.at ?kqh ?kqm; (case kqh => assumption); (case kqm => walk_at "ina")) | (refine' OffD.at' ?kqh ?kqm; (case kqh => assumption); (case kqm => walk_at "ina")) | exact ne_lt' (by assumption) | exact ne_gt' (by assumption) | fail))
  (k_with "k_all" => first | exact List.forall_mem_nil _ | (refine' List.forall_mem_cons.mpr ⟨?kqa, ?kqb⟩; (case kqa => k_ne); (case kqb => k_all)) | assumption | exact Apart.ne (by assumption) (by k_mem) | (refine all_app ?_ ?_ <;> k_all) | exact Hi.ne (by assumption) (by walk_at "sub") | exact ne_of_lt' (by walk_at "lts") (by walk_at "sub") | exact OffD.ne' (by assumption) (by walk_at "sub"))
  (k_with "subscriptTail Name Name ref int" => (k_here; (with_reducible show wpAny _ _ (subscriptTail _ _ (Value.ref _) (Value.int _ _)) _ _ _); k_dflt (refine' item_own_neg ?kqN ?kqm ?kqa ?kqb ?kqc ?kqx ?_; (case kqN => k_asm); (case kqm => k_mem); (case kqa => decide); (case kqb => decide); (case kqc => decide); (case kqx => rfl))))
  (k_with "subscriptTail Name Name ref int" => (k_here; (with_reducible show wpAny _ _ (subscriptTail _ _ (Value.ref _) (Value.int _ _)) _ _ _); k_dflt (refine' item_own ?kqN ?kqm ?kqa ?kqb ?kqx ?_; (case kqN => k_asm); (case kqm => k_mem); (case kqa => decide); (case kqb => decide); (case kqx => rfl))))
  (k_with "subscriptTail Name BinOp ref int" => (k_here; (with_reducible show wpAny _ _ (subscriptTail _ _ (Value.ref _) (Value.int _ _)) _ _ _); k_dflt (refine' item_own_neg ?kqN ?kqm ?kqa ?kqb ?kqc ?kqx ?_; (case kqN => k_asm); (case kqm => k_mem); (case kqa => decide); (case kqb => decide); (case kqc => decide); (case kqx => rfl))))
  (k_with "subscriptTail Name BinOp ref int" => (k_here; (with_reducible show wpAny _ _ (subscriptTail _ _ (Value.ref _) (Value.int _ _)) _ _ _); k_dflt (refine' item_own ?kqN ?kqm ?kqa ?kqb ?kqx ?_; (case kqN => k_asm); (case kqm => k_mem); (case kqa => decide); (case kqb => decide); (case kqx => rfl))))
  (k_with "subscriptTail Name UnaryOp ref int" => (k_here; (with_reducible show wpAny _ _ (subscriptTail _ _ (Value.ref _) (Value.int _ _)) _ _ _); k_dflt (refine' item_own_neg ?kqN ?kqm ?kqa ?kqb ?kqc ?kqx ?_; (case kqN => k_asm); (case kqm => k_mem); (case kqa => decide); (case kqb => decide); (case kqc => decide); (case kqx => rfl))))
  (k_with "subscriptTail Name UnaryOp ref int" => (k_here; (with_reducible show wpAny _ _ (subscriptTail _ _ (Value.ref _) (Value.int _ _)) _ _ _); k_dflt (refine' item_own ?kqN ?kqm ?kqa ?kqb ?kqx ?_; (case kqN => k_asm); (case kqm => k_mem); (case kqa => decide); (case kqb => decide); (case kqx => rfl))))
  (k_with "subscriptTail Name Constant ref int" => (k_here; (with_reducible show wpAny _ _ (subscriptTail _ _ (Value.ref _) (Value.int _ _)) _ _ _); k_dflt (refine' item_own_neg ?kqN ?kqm ?kqa ?kqb ?kqc ?kqx ?_; (case kqN => k_asm); (case kqm => k_mem); (case kqa => decide); (case kqb => decide); (case kqc => decide); (case kqx => rfl))))
  (k_with "subscriptTail Name Constant ref int" => (k_here; (with_reducible show wpAny _ _ (subscriptTail _ _ (Value.ref _) (Value.int _ _)) _ _ _); k_dflt (refine' item_own ?kqN ?kqm ?kqa ?kqb ?kqx ?_; (case kqN => k_asm); (case kqm => k_mem); (case kqa => decide); (case kqb => decide); (case kqx => rfl))))
  (k_with "subscriptTail" => (k_here; (with_reducible show wpAny _ _ (subscriptTail _ _ (Value.ref _) (Value.int _ _)) _ _ _); k_dflt (refine' item_own_neg ?kqN ?kqm ?kqa ?kqb ?kqc ?kqx ?_; (case kqN => k_asm); (case kqm => k_mem); (case kqa => decide); (case kqb => decide); (case kqc => decide); (case kqx => rfl))))
  (k_with "subscriptTail" => (k_here; (with_reducible show wpAny _ _ (subscriptTail _ _ (Value.ref _) (Value.int _ _)) _ _ _); k_dflt (refine' item_own ?kqN ?kqm ?kqa ?kqb ?kqx ?_; (case kqN => k_asm); (case kqm => k_mem); (case kqa => decide); (case kqb => decide); (case kqx => rfl))))
  (k_with "num" => first | exact (show _ = (0 : Int) by decide) | exact (show _ = (1 : Int) by decide) | exact (show _ = (2 : Int) by decide) | exact (show _ = (3 : Int) by decide) | exact (show _ = (4 : Int) by decide) | exact (show _ = (5 : Int) by decide) | exact (show _ = (6 : Int) by decide) | exact (show _ = (7 : Int) by decide) | exact (show _ = (8 : Int) by decide))
  (k_with "exec For Name Subscript cons nil" => (k_here; (rename Fr _ _ _ _ => lF'); (with_unfolding_all refine' For_invVF lF' ?kqk1 ?kqk2 ?_; (case kqk1 => exact rfl); (case kqk2 => exact rfl); k_whole)))
  (k_with "call builtin:min cons nil" => (k_here; (with_reducible show wpAny _ _ (call (Value.builtin _) [Value.int _ _, Value.int _ _]) _ _ _); k_dflt (refine' min_le_N ?kqab ?kqhh ?kqF ?kqN ?_; (case kqab => decide); (case kqhh => exact rfl); (case kqF => k_asm); (case kqN => k_asm)); intro h' tk' F' N'; (try k_sweep)))
  (k_with "binaryOp Sub int int" => (k_here; k_dflt (refine' sub_int_k ?kqhk ?_; (case kqhk => walk_at "num"))))
  (k_with "RangeRest" => (with_unfolding_all first | (refine' rr_succ ?kqhv (fun t' h' tk' F' N' => ?_); (case kqhv => walk_at "num")) | (refine RangeRest.zero (fun h' tk' F' N' => ?_))))
  (k_with "eval ListComp" => (k_here; k_dflt (refine LCg.ListComp_U (F₀ := by k_asm) (by with_unfolding_all rfl) (by decide) (by rfl) (by decide) (by rfl) ?_); k_dflt lcg_toSrc))
  (k_with "CompSrc" => (k_here; k_dflt (first
  | (refine LCg.CompSrc.ledger (by rfl) (by k_asm) (by k_asm) (by k_mem) (by first | exact Nat.le_of_ble_eq_true rfl | size_fits) ?_; intro g'; lcg_lit)
  | (refine LCg.CompSrc.range (by rfl) (by k_asm) (by k_asm) (by assumption) (by first | decide | rfl) (by first | rfl | decide) (by first | exact Nat.le_of_ble_eq_true rfl | size_fits) ?_; intro g'; lcg_lit))))
  (k_with "CompRest" => (with_unfolding_all first
  | (refine LCg.CompRest.succ ?_; intro v' I' oI' C' oC' D' m' h' tk' E' hv' hC' hx' F' N' off' ne'; (first | lcg_open hv' | (obtain ⟨t9', hv9'⟩ := hv'; subst hv9')); (have o9' := offM_of off'); (try simp only [LCg.Off3, and_true] at off'))
  | refine LCg.CompRest.zero ?_))
  (k_with "CompEnd" => (k_dflt (refine' comp_end ?kqF ?kqN ?kqo ?kqS ?_; (case kqF => k_asm); (case kqN => k_asm); (case kqo => first | exact LCg.Off3.of (by assumption) | (refine' off3_next ?kqSp ?kqm ?kqs ?kqa; (case kqSp => walk_at "splits"); (case kqm => assumption); (case kqs => walk_at "sub"); (case kqa => assumption))); (case kqS => lcg_src))))
  (k_with "pull" => first | exact Pull.here | (refine' Pull.next ?kqp; (case kqp => walk_at "pull")))
  (k_with "UnrEnd" => (k_dflt (refine' unr_end ?kqF ?kqN ?kqp ?kqo ?_; (case kqF => k_asm); (case kqN => k_asm); (case kqp => walk_at "pull"); (case kqo => k_all))))
  (k_with "UnrEnd" => (k_dflt (refine' unr_endL ?kqF ?kqN ?kqp ?kqo ?kqm ?_; (case kqF => k_asm); (case kqN => k_asm); (case kqp => walk_at "pull"); (case kqo => k_all); (case kqm => k_mem))))
  (k_with "pyIter ref" => ((with_reducible show wpAny _ _ (pyIter (Value.ref _)) (fun it s₂ => LoopAtV _ _ _ _ _ _ _ _ _ it s₂) _ _); k_here; k_dflt (refine' iter_listL ?kqhh ?kqF ?kqN ?kqm ?_; (case kqhh => exact rfl); (case kqF => k_asm); (case kqN => k_asm); (case kqm => k_mem)); intro i' l1; (try k_lt l1)))
  (k_with "FinE" => ((unfold LCg.FinE); intro D' h' tk' F' N' o1'; (have o8' := offD_of o1'); (try simp only [LCg.Off1, and_true] at o1'); (try simp only [List.nil_append, List.cons_append] at N'); (try dsimp only)))
  (k_with "FinA" => ((unfold LCg.FinA); intro D' h' tk' F' N' o1'; (have o8' := offD_of o1'); (try simp only [LCg.Off1, and_true] at o1'); (try simp only [List.nil_append, List.cons_append] at N'); (try dsimp only)))
  (k_with "k_mem" => first | ((with_reducible refine mem_appL ?_); ktr_member) | ((with_reducible refine mem_appR ?_); ktr_member) | ((with_reducible refine mem_raw ?_); ktr_member))
  (k_with "execs cons Assign cons" => ((with_reducible refine wpAny_execs_cons ?_); try dsimp only))
  (k_with "exec While Compare cons nil" => (k_here; k_dflt (refine whl_start 100 ?_)))
  (k_with "pyIter ref" => ((with_reducible show wpAny _ _ (pyIter (Value.ref _)) (fun it s₂ => LoopAtV _ _ _ _ _ _ _ _ _ it s₂) _ _); k_here; l_hasStore; first | k_rangeUnr | krs_unr))
  (k_with "enterC" => (refine' code_defC ?kqk1 ?kqk2 ?kqk3 ?kqk4 ?kqk5 ?kqkA ?kqkF ?kqkK ?kqk6 ?kqk7 ?kqk8 ?kqk9 ?kqkB ?kqkD ?_ ?kqc2 ?kqc3 ?kqc4; (case kqkA => exact rfl); (case kqkF => exact rfl); (case kqkK => assumption); (case kqk1 => k_asm); (case kqk2 => k_asm); (case kqk3 => k_asm); (case kqk4 => k_asm); (case kqk5 => k_asm); (case kqk6 => k_is); (case kqk7 => k_is); (case kqk8 => ktr_room); (case kqk9 => exact BindsTo.of_eq rfl); (case kqkB => exact rfl); (case kqkD => decide +kernel); (case kqc2 => exact rfl); (case kqc3 => exact rfl); (case kqc4 => exact rfl); k_whole; intro g' L' h' tk' cells' FG' F' N' Y' B' X' T' l1; (have l9 := hi_of l1); (have l8 := hi_succ l9); (have l7 := hi_succ2 l9); (have l6 := hi_succ3 l9); (have l5 := hi_succ4 l9); (try k_lt l1); k_cells Y'; (try simp only [List.cons_append, List.nil_append] at N'); (try dsimp only); (try k_fold)))
  (k_with "split" => first | exact Split.app | (refine' Split.cons ?kqx; (case kqx => walk_at "split")) | exact Split.nil)
  (k_with "apart" => first | assumption | exact Apart.nil | (refine' Apart.cons ?kqa ?kqb; (case kqa => walk_at "notin"); (case kqb => walk_at "apart")) | exact Apart.sub (by assumption) (by walk_at "sub"))
  (k_with "kind" => first | exact rfl | assumption)
  trivial

section
variable {prog : Program} {w : World} {A : Around} {h₀ : Heap} {L : Addr} {m : Str → Option Value} {env : Env} {elt : Expr} {x : Str} {scope : Scope} {cl : List (Str × Addr)} {s : Shared} {S : List (Addr × Obj) → Prop} {Pv : Nat → Value → Prop} {Fin : List Value → List (Addr × Obj) → Prop}
end
section
variable {prog : Program} {w : World} {A : Around} {E : Value → Shared → Prop} {s : Shared} {h₀ : Heap} {L D : Addr} {news : List (Addr × Obj)} {us : List NB} {c : Nat} {k : Int} {t : Tok} {value slice : Expr} {Q : Value → Shared → Prop}
end
inductive SInv (H c : Addr) (e : Nat) (lim : Int) (gs : List (Int × RF)) (a b : Addr × Obj) (rest : List (Addr × Obj)) (j : Nat) (ys : List Value) (news : List (Addr × Obj)) : Prop
  | mk (rs : List NB) (p q sd : Int) (tp tq ts : Tok) : (ys = rs.map NB.val) → (rs.length = j) → ((∀ x ∈ nets rs, x ∈ gs)) → (0 ≤ p) → (p ≤ lim) → (news = a :: b :: (H, hand c p q sd tp tq ts e) :: rest) → SInv H c e lim gs a b rest j ys news
theorem some_end {h₀ h' : Heap} {L I C D H c : Addr} {m : Str → Option Value} {s : Shared} {oI oC : Obj} {e tk j : Nat} {lim : Int} {gs : List (Int × RF)} {a b : Addr × Obj} {o0 : Obj} {rest : List (Addr × Obj)} {rs : List NB} {p q sd r : Int} {tp tq ts t : Tok} {f : RF} (off : LCg.Off3 I C D (a :: b :: (H, o0) :: rest))
    (N : News h₀ L h' ((I, oI) :: (C, oC) :: (D, LCg.lst (rs.map NB.val)) :: a :: b :: (H, hand c p q sd tp tq ts e) :: rest)) (F : Fr h₀ L h' m) (hrl : rs.length = j) (hrg : ∀ x ∈ nets rs, x ∈ gs) (hf : (r, f) ∈ gs) (p1 : p ≤ lim) (p0 : 0 ≤ p) :
    LCg.CompEnd h₀ L m s I oI C oC D (LCg.lst (rs.map NB.val)) (fun _ => True) (fun y n => SInv H c e lim gs a b rest (j + 1) (rs.map NB.val ++ [y]) n) (.int r t) { s with heap := h', toks := tk } :=
  LCg.CompEnd.intro F N _ (fun _ h => h) (off_turn off rfl) trivial ⟨rs ++ [⟨r, t, f⟩], p, q, sd, tp, tq, ts, map_snoc, len_snoc hrl, nets_snoc hrg hf, p0, p1, rfl⟩
theorem kwZso1 : True := by
  (k_with "CompSrc" => (refine hold ?_))
  (k_with "CompEnd" => (refine hold ?_))
  (k_with "call ref" => ((with_reducible show wpAny _ _ (call (Value.ref 270) _) _ _ _); k_here; k_dflt (refine' c_pick ?kqB ?kqF ?kqX ?kqN ?kqT ?kqhk ?kqU ?kqhc ?kqch ?kqhx ?kqh63 ?kqp0 ?kqp1 ?kql1 ?kql5 ?kqhd ?kqhu ?_; (case kqB => k_asm); (case kqF => k_asm); (case kqX => k_asm); (case kqN => k_asm); (case kqT => k_asm); (case kqhk => walk_at "kind"); (case kqU => k_updF); (case kqhc => k_mem); (case kqch => assumption); (case kqhx => assumption); (case kqh63 => assumption); (case kqp0 => assumption); (case kqp1 => assumption); (case kql1 => first | decide | assumption); (case kql5 => first | decide | assumption); (case kqhd => ktr_room); (case kqhu => ktr_units)); intro r' t' p' q' sd' tp' tq' ts' h' tk' r0' r1' p0' p1' F' N'; (try dsimp only at N'); (try k_sweep)))
  (k_with "subscriptTail Name Call ref int" => ((with_reducible show wpAny _ _ (subscriptTail _ _ (Value.ref _) (Value.int _ _)) _ _ _); k_here; k_dflt (refine' item_sym ?kqN ?kqm ?kqh8 ?kqh0 ?kqh1 ?_; (case kqN => k_asm); (case kqm => k_mem); (case kqh8 => omega); (case kqh0 => assumption); (case kqh1 => omega)); intro b' hb'))
  (k_with "call builtin:len cons nil" => ((with_reducible show wpAny _ _ (call (Value.builtin "len") [Value.ref _]) _ _ _); k_here; k_dflt (refine' len_nb ?kqN ?kqm ?kqhn ?kqh8 ?_; (case kqN => k_asm); (case kqm => k_mem); (case kqhn => assumption); (case kqh8 => decide))))
  trivial

section
variable {prog : Program} {w : World} {mg mb : Str → Option Value} {mean : ExcName → Option Value} {loose : List Str} {dp un : Nat} {gd : Option (List Code)} {cn : Str} {cs : Scope} {L a : Addr} {ccd : Value} {cl : List (Str × Addr)} {outer : List Env} {A₀ : Around}
  {base h₀ : Heap} {m : Str → Option Value} {s : Shared} {Q E : Value → Shared → Prop} {A : NA} {news own nt : List (Addr × Obj)} {gs : List (Int × RF)} {R : Nat}

theorem c_some {H c : Addr} {e ec : Nat} {p q sd : Int} {tp tq ts : Tok} {xs : List Value} {ns : List Int} {g : Obj → List (Addr × Obj)} {pl : Addr} {pe wd : Nat} {ps : List NB} {tw : Tok}
    (B : Below A₀ base outer h₀) (F : Fr h₀ L s.heap m) (X : (hd93.heap_1 w.params).In h₀) (N : News h₀ L s.heap news) (T : Top hd93.view_1 loose mean mg mb h₀) (hk : cs.kind = .function)
    (U : UpdF H (hand c p q sd tp tq ts e) news g) (hc : (c, listOf xs.toArray ec) ∈ news) (hcH : c ≠ H) (hx : IntsAre xs ns) (h63 : ns.length ≤ 63) (p0 : 0 ≤ p) (p1 : p ≤ ns.length) (hp : (pl, listOf (vals ps) pe) ∈ news) (hpH : pl ≠ H) (hps : ps.length = 3) (hpg : ∀ x ∈ nets ps, x ∈ gs) (g0 : ((0 : Int), fF) ∈ gs) (g1 : ((1 : Int), fT) ∈ gs) (w1 : 1 ≤ wd) (w3 : wd ≤ 3) (hd : dp + 40 < recursionLimit) (hu : un + 320 < cLine)
    (ret : ∀ D ec' (rs : List NB) p' q' sd' tp' tq' ts' h' tk', rs.length = wd → (∀ x ∈ nets rs, x ∈ gs) → 0 ≤ p' → p' ≤ (ns.length : Int) → Fr h₀ L h' m → News h₀ L h' ((D, listOf (vals rs) ec') :: g (hand c p' q' sd' tp' tq' ts' e)) → OffD D (g (hand c p' q' sd' tp' tq' ts' e)) → Q (.ref D) { s with heap := h', toks := tk' }) :
    wpAny (model prog w) (ktrTop dp un gd cn cs L a ccd cl outer) (call (.ref 299) [.ref H, .ref pl, .int (wd : Int) tw]) Q E s := by
  obtain ⟨rest, hne, hall, hret, hin⟩ := pick_split (h₀ := h₀) (h := s.heap) (L := L) U
  have hcr : (c, listOf xs.toArray ec) ∈ rest := ((List.mem_cons.mp ((hall _).mp hc)).resolve_left fun q => hcH (congrArg Prod.fst q))
  have hpr : (pl, listOf (vals ps) pe) ∈ rest := ((List.mem_cons.mp ((hall _).mp hp)).resolve_left fun q => hpH (congrArg Prod.fst q))
  replace N : News h₀ L s.heap ((H, hand c p q sd tp tq ts e) :: rest) := news_sub N fun q hq => (hall q).mpr hq
  replace ret : ∀ D ec' (rs : List NB) p' q' sd' tp' tq' ts' h' tk', rs.length = wd → (∀ x ∈ nets rs, x ∈ gs) → 0 ≤ p' → p' ≤ (ns.length : Int) → Fr h₀ L h' m → News h₀ L h' ((D, listOf (vals rs) ec') :: (H, hand c p' q' sd' tp' tq' ts' e) :: rest) → OffD D ((H, hand c p' q' sd' tp' tq' ts' e) :: rest) → Q (.ref D) { s with heap := h', toks := tk' } :=
    fun D ec' rs p' q' sd' tp' tq' ts' h' tk' a1 a2 a3 a4 F' N' o' => ret D ec' rs p' q' sd' tp' tq' ts' h' tk' a1 a2 a3 a4 F' (fun z hz => by
      rcases List.mem_cons.mp hz with rfl | hz
      · exact N' _ List.mem_cons_self
      · exact hret _ _ (fun y hy => N' y (List.mem_cons_of_mem _ hy)) z hz) (fun z hz => o' z (hin _ z hz))
  clear U hall hret hc hp hin
  refine wpAny_call ?_
  k_dflt (walk_at "enterC")
  k_steps
  rename News _ _ _ _ => N1
  rename Fr _ _ _ _ => F1
  rename IsRange _ _ _ _ _ _ _ _ => hr
  unfold Hold
  have ru := rng_up (n := wd) (by omega)
  have hn2 := hi_ne2 N1 (by assumption) (by assumption)
  obtain ⟨hn2a, hn2b⟩ := hn2
  with_unfolding_all refine LCg.CompSrc.range (n := wd) (by rfl) F1 N1 hr ru.1 ru.2 (by rw [sizeLine_eq]; omega) ?_
  intro gg
  refine' cr_inv (SInv H c e (ns.length : Int) gs ?a ?b rest) wd ?step ?fin wd 0 [] _ (Nat.zero_add _) ?init
  case init => refine' ⟨[], p, q, sd, tp, tq, ts, rfl, rfl, (fun _ h => nomatch h), p0, p1, rfl⟩
  case step =>
    clear N1 F1 hr
    rintro j ys news hj ⟨rs, p1', q1, sd1, tp1, tq1, ts1, rfl, hrl, hrg, b0, b1, rfl⟩ v I oI C oC D m₂ hh tk E' hv hC hx2 F2 N2 off ne
    obtain ⟨tv, rfl⟩ := hv
    have offM := off.mem
    have oH := offM _ (List.mem_cons_of_mem _ (List.mem_cons_of_mem _ List.mem_cons_self))
    obtain ⟨oH1, oH2, oH3⟩ := oH
    dsimp only at oH1 oH2 oH3
    have oH1 := Ne.symm oH1
    have oH2 := Ne.symm oH2
    have oH3 := Ne.symm oH3
    k_steps
    · unfold Hold
      rename NB => bb
      rename bb ∈ ps => hbb
      rename News _ _ _ _ => NN
      exact some_end off NN (by k_asm) hrl hrg (hpg _ (List.mem_map.mpr ⟨bb, hbb, rfl⟩)) (by assumption) (by assumption)
    · unfold Hold
      rename _ < (2 : Int) => r2
      obtain ⟨f, hf⟩ := bit01 r2 (by assumption) g0 g1
      rename News _ _ _ _ => NN
      exact some_end off NN (by k_asm) hrl hrg hf (by assumption) (by assumption)
  case fin =>
    clear N1 F1 hr
    rintro ys news ⟨rs, p1', q1, sd1, tp1, tq1, ts1, rfl, hrl, hrg, b0, b1, rfl⟩
    k_steps
    refine' ret _ _ rs p1' q1 sd1 tp1 tq1 ts1 _ _ hrl hrg b0 b1 ?F3 ?N3 ?O3
    case F3 => k_asm
    case N3 => exact news_drop2 (by assumption)
    case O3 => exact off_drop2 (by assumption)
end
end Mine93
-- Znn
namespace Mine93

theorem kwZnn0 : True := by
  k_with_none
  (k_with "room" => first | exact Nat.le_of_ble_eq_true rfl | exact room2 (by assumption) (Nat.le_of_ble_eq_true rfl) | exact room3 (by assumption) (Nat.le_of_ble_eq_true rfl) | exact room1 (by assumption))
  (k_with "units" => first | exact Nat.le_of_ble_eq_true rfl | exact room2 (by assumption) (Nat.le_of_ble_eq_true rfl) | exact room3 (by assumption) (Nat.le_of_ble_eq_true rfl) | exact room1 (by assumption))
  (k_with "splits" => first | exact Split.app | (refine' Split.cons ?kqx; (case kqx => walk_at "splits")) | exact Split.nil)
  (k_with "sub" => ((repeat (first | exact sub_refl | exact sub_appL | exact sub_appR | (refine sub_cons ?kqmem ?_; (case kqmem => k_mem)) | refine sub_tail ?_)); done))
  (k_with "gsub" => ((repeat (first | exact fun _ h => h | (refine gsub_cons ?kqmem ?_; (case kqmem => k_mem)) | refine gsub_tail ?_)); done))
  (k_with "lts" => first | exact lt0 (by assumption) | exact lt1 (by assumption) | exact lt2 (by assumption) | exact lt3 (by assumption) | exact lt4 (by assumption) | exact lt5 (by assumption) | exact lt6 (by assumption) | exact lt7 (by assumption) | exact lt8 (by assumption) | exact lt9 (by assumption) | exact lt10 (by assumption) | exact lt11 (by assumption) | exact lt12 (by assumption) | exact lt13 (by assumption) | exact lt14 (by assumption) | exact lt15 (by assumption) | exact lt16 (by assumption) | exact lt17 (by assumption) | exact lt18 (by assumption) | exact lt19 (by assumption))
  (k_with "notin" => first | assumption | exact Apart.at (by assumption) (by k_mem) | exact OffM.notI (by assumption) (by walk_at "sub") | exact OffM.notC (by assumption) (by walk_at "sub") | exact OffM.notD (by assumption) (by walk_at "sub") | exact Hi.not (by assumption) (by walk_at "sub") | exact OffD.not (by assumption) (by walk_at "sub") | exact not_of_lt (by walk_at "lts") (by walk_at "sub"))
  (k_with "ina" => first | exact InA.here | (refine' InA.next ?kqp; (case kqp => walk_at "ina")) | fail)
  (k_with "k_ne" => ((try dsimp only); first | assumption | exact Ne.symm (by assumption) | (refine' OffD.at ?kqh ?kqm; (case kqh => assumption); (case kqm => walk_at "ina")) | (refine' OffD.at' ?kqh ?kqm; (case kqh => assumption); (case kqm => walk_at "ina")) | exact ne_lt' (by assumption) | exact ne_gt' (by assumption) | fail))
  (k_with "k_all" => first | exact List.forall_mem_nil _ | (refine' List.forall_mem_cons.mpr ⟨?kqa, ?kqb⟩; (case kqa => k_ne); (case kqb => k_all)) | assumption | exact Apart.ne (by assumption) (by k_mem) | (refine all_app ?_ ?_ <;> k_all) | exact Hi.ne (by assumption) (by walk_at "sub") | exact ne_of_lt' (by walk_at "lts") (by walk_at "sub") | exact OffD.ne' (by assumption) (by walk_at "sub"))
  (k_with "subscriptTail Name Name ref int" => (k_here; (with_reducible show wpAny _ _ (subscriptTail _ _ (Value.ref _) (Value.int _ _)) _ _ _); k_dflt (refine' item_own_neg ?kqN ?kqm ?kqa ?kqb ?kqc ?kqx ?_; (case kqN => k_asm); (case kqm => k_mem); (case kqa => decide); (case kqb => decide); (case kqc => decide); (case kqx => rfl))))
  (k_with "subscriptTail Name Name ref int" => (k_here; (with_reducible show wpAny _ _ (subscriptTail _ _ (Value.ref _) (Value.int _ _)) _ _ _); k_dflt (refine' item_own ?kqN ?kqm ?kqa ?kqb ?kqx ?_; (case kqN => k_asm); (case kqm => k_mem); (case kqa => decide); (case kqb => decide); (case kqx => rfl))))
  (k_with "subscriptTail Name BinOp ref int" => (k_here; (with_reducible show wpAny _ _ (subscriptTail _ _ (Value.ref _) (Value.int _ _)) _ _ _); k_dflt (refine' item_own_neg ?kqN ?kqm ?kqa ?kqb ?kqc ?kqx ?_; (case kqN => k_asm); (case kqm => k_mem); (case kqa => decide); (case kqb => decide); (case kqc => decide); (case kqx => rfl))))
  (k_with "subscriptTail Name BinOp ref int" => (k_here; (with_reducible show wpAny _ _ (subscriptTail _ _ (Value.ref _) (Value.int _ _)) _ _ _); k_dflt (refine' item_own ?kqN ?kqm ?kqa ?kqb ?kqx ?_; (case kqN => k_asm); (case kqm => k_mem); (case kqa => decide); (case kqb => decide); (case kqx => rfl))))
  (k_with "subscriptTail Name UnaryOp ref int" => (k_here; (with_reducible show wpAny _ _ (subscriptTail _ _ (Value.ref _) (Value.int _ _)) _ _ _); k_dflt (refine' item_own_neg ?kqN ?kqm ?kqa ?kqb ?kqc ?kqx ?_; (case kqN => k_asm); (case kqm => k_mem); (case kqa => decide); (case kqb => decide); (case kqc => decide); (case kqx => rfl))))
  (k_with "subscriptTail Name UnaryOp ref int" => (k_here; (with_reducible show wpAny _ _ (subscriptTail _ _ (Value.ref _) (Value.int _ _)) _ _ _); k_dflt (refine' item_own ?kqN ?kqm ?kqa ?kqb ?kqx ?_; (case kqN => k_asm); (case kqm => k_mem); (case kqa => decide); (case kqb => decide); (case kqx => rfl))))
  (k_with "subscriptTail Name Constant ref int" => (k_here; (with_reducible show wpAny _ _ (subscriptTail _ _ (Value.ref _) (Value.int _ _)) _ _ _); k_dflt (refine' item_own_neg ?kqN ?kqm ?kqa ?kqb ?kqc ?kqx ?_; (case kqN => k_asm); (case kqm => k_mem); (case kqa => decide); (case kqb => decide); (case kqc => decide); (case kqx => rfl))))
  (k_with "subscriptTail Name Constant ref int" => (k_here; (with_reducible show wpAny _ _ (subscriptTail _ _ (Value.ref _) (Value.int _ _)) _ _ _); k_dflt (refine' item_own ?kqN ?kqm ?kqa ?kqb ?kqx ?_; (case kqN => k_asm); (case kqm => k_mem); (case kqa => decide); (case kqb => decide); (case kqx => rfl))))
  (k_with "subscriptTail" => (k_here; (with_reducible show wpAny _ _ (subscriptTail _ _ (Value.ref _) (Value.int _ _)) _ _ _); k_dflt (refine' item_own_neg ?kqN ?kqm ?kqa ?kqb ?kqc ?kqx ?_; (case kqN => k_asm); (case kqm => k_mem); (case kqa => decide); (case kqb => decide); (case kqc => decide); (case kqx => rfl))))
  (k_with "subscriptTail" => (k_here; (with_reducible show wpAny _ _ (subscriptTail _ _ (Value.ref _) (Value.int _ _)) _ _ _); k_dflt (refine' item_own ?kqN ?kqm ?kqa ?kqb ?kqx ?_; (case kqN => k_asm); (case kqm => k_mem); (case kqa => decide); (case kqb => decide); (case kqx => rfl))))
  (k_with "num" => first | exact (show _ = (0 : Int) by decide) | exact (show _ = (1 : Int) by decide) | exact (show _ = (2 : Int) by decide) | exact (show _ = (3 : Int) by decide) | exact (show _ = (4 : Int) by decide) | exact (show _ = (5 : Int) by decide) | exact (show _ = (6 : Int) by decide) | exact (show _ = (7 : Int) by decide) | exact (show _ = (8 : Int) by decide))
  (k_with "exec For Name Subscript cons nil" => (k_here; (rename Fr _ _ _ _ => lF'); (with_unfolding_all refine' For_invVF lF' ?kqk1 ?kqk2 ?_; (case kqk1 => exact rfl); (case kqk2 => exact rfl); k_whole)))
  (k_with "call builtin:min cons nil" => (k_here; (with_reducible show wpAny _ _ (call (Value.builtin _) [Value.int _ _, Value.int _ _]) _ _ _); k_dflt (refine' min_le_N ?kqab ?kqhh ?kqF ?kqN ?_; (case kqab => decide); (case kqhh => exact rfl); (case kqF => k_asm); (case kqN => k_asm)); intro h' tk' F' N'; (try k_sweep)))
  (k_with "binaryOp Sub int int" => (k_here; k_dflt (refine' sub_int_k ?kqhk ?_; (case kqhk => walk_at "num"))))
  (k_with "RangeRest" => (with_unfolding_all first | (refine' rr_succ ?kqhv (fun t' h' tk' F' N' => ?_); (case kqhv => walk_at "num")) | (refine RangeRest.zero (fun h' tk' F' N' => ?_))))
  (k_with "eval ListComp" => (k_here; k_dflt (refine LCg.ListComp_U (F₀ := by k_asm) (by with_unfolding_all rfl) (by decide) (by rfl) (by decide) (by rfl) ?_); k_dflt lcg_toSrc))
  (k_with "CompSrc" => (k_here; k_dflt (first
  | (refine LCg.CompSrc.ledger (by rfl) (by k_asm) (by k_asm) (by k_mem) (by first | exact Nat.le_of_ble_eq_true rfl | size_fits) ?_; intro g'; lcg_lit)
  | (refine LCg.CompSrc.range (by rfl) (by k_asm) (by k_asm) (by assumption) (by first | decide | rfl) (by first | rfl | decide) (by first | exact Nat.le_of_ble_eq_true rfl | size_fits) ?_; intro g'; lcg_lit))))
  (k_with "CompRest" => (with_unfolding_all first
  | (refine LCg.CompRest.succ ?_; intro v' I' oI' C' oC' D' m' h' tk' E' hv' hC' hx' F' N' off' ne'; (first | lcg_open hv' | (obtain ⟨t9', hv9'⟩ := hv'; subst hv9')); (have o9' := offM_of off'); (try simp only [LCg.Off3, and_true] at off'))
  | refine LCg.CompRest.zero ?_))
  (k_with "CompEnd" => (k_dflt (refine' comp_end ?kqF ?kqN ?kqo ?kqS ?_; (case kqF => k_asm); (case kqN => k_asm); (case kqo => first | exact LCg.Off3.of (by assumption) | (refine' off3_next ?kqSp ?kqm ?kqs ?kqa; (case kqSp => walk_at "splits"); (case kqm => assumption); (case kqs => walk_at "sub"); (case kqa => assumption))); (case kqS => lcg_src))))
  (k_with "pull" => first | exact Pull.here | (refine' Pull.next ?kqp; (case kqp => walk_at "pull")))
  (k_with "UnrEnd" => (k_dflt (refine' unr_end ?kqF ?kqN ?kqp ?kqo ?_; (case kqF => k_asm); (case kqN => k_asm); (case kqp => walk_at "pull"); (case kqo => k_all))))
  (k_with "UnrEnd" => (k_dflt (refine' unr_endL ?kqF ?kqN ?kqp ?kqo ?kqm ?_; (case kqF => k_asm); (case kqN => k_asm); (case kqp => walk_at "pull"); (case kqo => k_all); (case kqm => k_mem))))
  (k_with "pyIter ref" => ((with_reducible show wpAny _ _ (pyIter (Value.ref _)) (fun it s₂ => LoopAtV _ _ _ _ _ _ _ _ _ it s₂) _ _); k_here; k_dflt (refine' iter_listL ?kqhh ?kqF ?kqN ?kqm ?_; (case kqhh => exact rfl); (case kqF => k_asm); (case kqN => k_asm); (case kqm => k_mem)); intro i' l1; (try k_lt l1)))
  (k_with "FinE" => ((unfold LCg.FinE); intro D' h' tk' F' N' o1'; (have o8' := offD_of o1'); (try simp only [LCg.Off1, and_true] at o1'); (try simp only [List.nil_append, List.cons_append] at N'); (try dsimp only)))
  (k_with "FinA" => ((unfold LCg.FinA); intro D' h' tk' F' N' o1'; (have o8' := offD_of o1'); (try simp only [LCg.Off1, and_true] at o1'); (try simp only [List.nil_append, List.cons_append] at N'); (try dsimp only)))
  (k_with "k_mem" => first | ((with_reducible refine mem_appL ?_); ktr_member) | ((with_reducible refine mem_appR ?_); ktr_member) | ((with_reducible refine mem_raw ?_); ktr_member))
  (k_with "execs cons Assign cons" => ((with_reducible refine wpAny_execs_cons ?_); try dsimp only))
  (k_with "exec While Compare cons nil" => (k_here; k_dflt (refine whl_start 100 ?_)))
  (k_with "pyIter ref" => ((with_reducible show wpAny _ _ (pyIter (Value.ref _)) (fun it s₂ => LoopAtV _ _ _ _ _ _ _ _ _ it s₂) _ _); k_here; l_hasStore; first | k_rangeUnr | krs_unr))
  (k_with "enterC" => (refine' code_defC ?kqk1 ?kqk2 ?kqk3 ?kqk4 ?kqk5 ?kqkA ?kqkF ?kqkK ?kqk6 ?kqk7 ?kqk8 ?kqk9 ?kqkB ?kqkD ?_ ?kqc2 ?kqc3 ?kqc4; (case kqkA => exact rfl); (case kqkF => exact rfl); (case kqkK => assumption); (case kqk1 => k_asm); (case kqk2 => k_asm); (case kqk3 => k_asm); (case kqk4 => k_asm); (case kqk5 => k_asm); (case kqk6 => k_is); (case kqk7 => k_is); (case kqk8 => ktr_room); (case kqk9 => exact BindsTo.of_eq rfl); (case kqkB => exact rfl); (case kqkD => decide +kernel); (case kqc2 => exact rfl); (case kqc3 => exact rfl); (case kqc4 => exact rfl); k_whole; intro g' L' h' tk' cells' FG' F' N' Y' B' X' T' l1; (have l9 := hi_of l1); (have l8 := hi_succ l9); (have l7 := hi_succ2 l9); (have l6 := hi_succ3 l9); (have l5 := hi_succ4 l9); (try k_lt l1); k_cells Y'; (try simp only [List.cons_append, List.nil_append] at N'); (try dsimp only); (try k_fold)))
  (k_with "split" => first | exact Split.app | (refine' Split.cons ?kqx; (case kqx => walk_at "split")) | exact Split.nil)
  (k_with "apart" => first | assumption | exact Apart.nil | (refine' Apart.cons ?kqa ?kqb; (case kqa => walk_at "notin"); (case kqb => walk_at "apart")) | exact Apart.sub (by assumption) (by walk_at "sub"))
  (k_with "kind" => first | exact rfl | assumption)
  trivial

theorem off_drop1 {D : Addr} {a : Addr × Obj} {r : List (Addr × Obj)} (h : OffD D (a :: r)) : OffD D r := fun p hp => h p (.tail _ hp)
theorem news_drop1 {h₀ h : Heap} {L : Addr} {d a : Addr × Obj} {r : List (Addr × Obj)} (N : News h₀ L h (d :: a :: r)) : News h₀ L h (d :: r) := fun p hp => N p (by
  rcases List.mem_cons.mp hp with rfl | hp
  · exact .head _
  · exact .tail _ (.tail _ hp))
theorem kwZnn1 : True := by
  (k_with "CompEnd" => (k_dflt (refine' comp_end ?kqF ?kqN ?kqo ?kqS ?_; (case kqF => k_asm); (case kqN => k_asm); (case kqo => exact off_turn (by assumption) rfl); (case kqS => lcg_src))))
  trivial

section
variable {prog : Program} {w : World} {mg mb : Str → Option Value} {mean : ExcName → Option Value} {loose : List Str} {dp un : Nat} {gd : Option (List Code)} {cn : Str} {cs : Scope} {L a : Addr} {ccd : Value} {cl : List (Str × Addr)} {outer : List Env} {A₀ : Around}
  {base h₀ : Heap} {m : Str → Option Value} {s : Shared} {Q E : Value → Shared → Prop} {A : NA} {news own nt : List (Addr × Obj)} {gs : List (Int × RF)} {R : Nat}

theorem c_newnets {cc : Int} {tc tw : Tok} {rest : List (Addr × Obj)}
    (B : Below A₀ base outer h₀) (F : Fr h₀ L s.heap m) (X : (hd93.heap_1 w.params).In h₀) (N : News h₀ L s.heap ((A.dN, netD w.params A cc tc) :: rest)) (T : Top hd93.view_1 loose mean mg mb h₀) (hk : cs.kind = .function)
    (hr : ∀ p ∈ rest, p.1 ≠ A.dN) (hNd : A.N ≠ A.dN) (hN : (A.N, instObj 259 A.dN) ∈ rest) (hd : dp + 20 < recursionLimit) (hu : un + 160 < cLine)
    (ret : ∀ D t0 t1 t2 tc' h' tk', Fr h₀ L h' m → News h₀ L h' ((D, listOf [Value.int cc t0, Value.int (cc + 1) t1, Value.int (cc + 1 + 1) t2].toArray 3) :: (A.dN, netD w.params A (cc + 1 + 1 + 1) tc') :: rest) → OffD D ((A.dN, netD w.params A (cc + 1 + 1 + 1) tc') :: rest) → Q (.ref D) { s with heap := h', toks := tk' }) :
    wpAny (model prog w) (ktrTop dp un gd cn cs L a ccd cl outer) (call (.ref 212) [.ref A.N, .int 3 tw]) Q E s := by
  refine wpAny_call ?_
  k_dflt (walk_at "enterC")
  k_steps
  all_goals (
    refine' ret _ _ _ _ _ _ _ ?F ?N ?O
    case F => k_asm
    case N => exact news_drop1 (by assumption)
    case O => exact off_drop1 (by assumption))
end
end Mine93
-- Zai
namespace Mine93

theorem kwZai0 : True := by
  k_with_none
  (k_with "room" => first | exact Nat.le_of_ble_eq_true rfl | exact room2 (by assumption) (Nat.le_of_ble_eq_true rfl) | exact room3 (by assumption) (Nat.le_of_ble_eq_true rfl) | exact room1 (by assumption))
  (k_with "units" => first | exact Nat.le_of_ble_eq_true rfl | exact room2 (by assumption) (Nat.le_of_ble_eq_true rfl) | exact room3 (by assumption) (Nat.le_of_ble_eq_true rfl) | exact room1 (by assumption))
  (k_with "splits" => first | exact Split.app | (refine' Split.cons ?kqx; (case kqx => walk_at "splits")) | exact Split.nil)
  (k_with "sub" => ((repeat (first | exact sub_refl | exact sub_appL | exact sub_appR | (refine sub_cons ?kqmem ?_; (case kqmem => k_mem)) | refine sub_tail ?_)); done))
  (k_with "gsub" => ((repeat (first | exact fun _ h => h | (refine gsub_cons ?kqmem ?_; (case kqmem => k_mem)) | refine gsub_tail ?_)); done))
  (k_with "lts" => first | exact lt0 (by assumption) | exact lt1 (by assumption) | exact lt2 (by assumption) | exact lt3 (by assumption) | exact lt4 (by assumption) | exact lt5 (by assumption) | exact lt6 (by assumption) | exact lt7 (by assumption) | exact lt8 (by assumption) | exact lt9 (by assumption) | exact lt10 (by assumption) | exact lt11 (by assumption) | exact lt12 (by assumption) | exact lt13 (by assumption) | exact lt14 (by assumption) | exact lt15 (by assumption) | exact lt16 (by assumption) | exact lt17 (by assumption) | exact lt18 (by assumption) | exact lt19 (by assumption))
  (k_with "notin" => first | assumption | exact Apart.at (by assumption) (by k_mem) | exact OffM.notI (by assumption) (by walk_at "sub") | exact OffM.notC (by assumption) (by walk_at "sub") | exact OffM.notD (by assumption) (by walk_at "sub") | exact Hi.not (by assumption) (by walk_at "sub") | exact OffD.not (by assumption) (by walk_at "sub") | exact not_of_lt (by walk_at "lts") (by walk_at "sub"))
  (k_with "ina" => first | exact InA.here | (refine' InA.next ?kqp; (case kqp => walk_at "ina")) | fail)
  (k_with "k_ne" => ((try dsimp only); first | assumption | exact Ne.symm (by assumption) | (refine' OffD.at ?kqh ?kqm; (case kqh => assumption); (case kqm => walk_at "ina")) | (refine' OffD.at' ?kqh ?kqm; (case kqh => assumption); (case kqm => walk_at "ina")) | exact ne_lt' (by assumption) | exact ne_gt' (by assumption) | fail))
  (k_with "k_all" => first | exact List.forall_mem_nil _ | (refine' List.forall_mem_cons.mpr ⟨?kqa, ?kqb⟩; (case kqa => k_ne); (case kqb => k_all)) | assumption | exact Apart.ne (by assumption) (by k_mem) | (refine all_app ?_ ?_ <;> k_all) | exact Hi.ne (by assumption) (by walk_at "sub") | exact ne_of_lt' (by walk_at "lts") (by walk_at "sub") | exact OffD.ne' (by assumption) (by walk_at "sub"))
  (k_with "subscriptTail Name Name ref int" => (k_here; (with_reducible show wpAny _ _ (subscriptTail _ _ (Value.ref _) (Value.int _ _)) _ _ _); k_dflt (refine' item_own_neg ?kqN ?kqm ?kqa ?kqb ?kqc ?kqx ?_; (case kqN => k_asm); (case kqm => k_mem); (case kqa => decide); (case kqb => decide); (case kqc => decide); (case kqx => rfl))))
  (k_with "subscriptTail Name Name ref int" => (k_here; (with_reducible show wpAny _ _ (subscriptTail _ _ (Value.ref _) (Value.int _ _)) _ _ _); k_dflt (refine' item_own ?kqN ?kqm ?kqa ?kqb ?kqx ?_; (case kqN => k_asm); (case kqm => k_mem); (case kqa => decide); (case kqb => decide); (case kqx => rfl))))
  (k_with "subscriptTail Name BinOp ref int" => (k_here; (with_reducible show wpAny _ _ (subscriptTail _ _ (Value.ref _) (Value.int _ _)) _ _ _); k_dflt (refine' item_own_neg ?kqN ?kqm ?kqa ?kqb ?kqc ?kqx ?_; (case kqN => k_asm); (case kqm => k_mem); (case kqa => decide); (case kqb => decide); (case kqc => decide); (case kqx => rfl))))
  (k_with "subscriptTail Name BinOp ref int" => (k_here; (with_reducible show wpAny _ _ (subscriptTail _ _ (Value.ref _) (Value.int _ _)) _ _ _); k_dflt (refine' item_own ?kqN ?kqm ?kqa ?kqb ?kqx ?_; (case kqN => k_asm); (case kqm => k_mem); (case kqa => decide); (case kqb => decide); (case kqx => rfl))))
  (k_with "subscriptTail Name UnaryOp ref int" => (k_here; (with_reducible show wpAny _ _ (subscriptTail _ _ (Value.ref _) (Value.int _ _)) _ _ _); k_dflt (refine' item_own_neg ?kqN ?kqm ?kqa ?kqb ?kqc ?kqx ?_; (case kqN => k_asm); (case kqm => k_mem); (case kqa => decide); (case kqb => decide); (case kqc => decide); (case kqx => rfl))))
  (k_with "subscriptTail Name UnaryOp ref int" => (k_here; (with_reducible show wpAny _ _ (subscriptTail _ _ (Value.ref _) (Value.int _ _)) _ _ _); k_dflt (refine' item_own ?kqN ?kqm ?kqa ?kqb ?kqx ?_; (case kqN => k_asm); (case kqm => k_mem); (case kqa => decide); (case kqb => decide); (case kqx => rfl))))
  (k_with "subscriptTail Name Constant ref int" => (k_here; (with_reducible show wpAny _ _ (subscriptTail _ _ (Value.ref _) (Value.int _ _)) _ _ _); k_dflt (refine' item_own_neg ?kqN ?kqm ?kqa ?kqb ?kqc ?kqx ?_; (case kqN => k_asm); (case kqm => k_mem); (case kqa => decide); (case kqb => decide); (case kqc => decide); (case kqx => rfl))))
  (k_with "subscriptTail Name Constant ref int" => (k_here; (with_reducible show wpAny _ _ (subscriptTail _ _ (Value.ref _) (Value.int _ _)) _ _ _); k_dflt (refine' item_own ?kqN ?kqm ?kqa ?kqb ?kqx ?_; (case kqN => k_asm); (case kqm => k_mem); (case kqa => decide); (case kqb => decide); (case kqx => rfl))))
  (k_with "subscriptTail" => (k_here; (with_reducible show wpAny _ _ (subscriptTail _ _ (Value.ref _) (Value.int _ _)) _ _ _); k_dflt (refine' item_own_neg ?kqN ?kqm ?kqa ?kqb ?kqc ?kqx ?_; (case kqN => k_asm); (case kqm => k_mem); (case kqa => decide); (case kqb => decide); (case kqc => decide); (case kqx => rfl))))
  (k_with "subscriptTail" => (k_here; (with_reducible show wpAny _ _ (subscriptTail _ _ (Value.ref _) (Value.int _ _)) _ _ _); k_dflt (refine' item_own ?kqN ?kqm ?kqa ?kqb ?kqx ?_; (case kqN => k_asm); (case kqm => k_mem); (case kqa => decide); (case kqb => decide); (case kqx => rfl))))
  (k_with "num" => first | exact (show _ = (0 : Int) by decide) | exact (show _ = (1 : Int) by decide) | exact (show _ = (2 : Int) by decide) | exact (show _ = (3 : Int) by decide) | exact (show _ = (4 : Int) by decide) | exact (show _ = (5 : Int) by decide) | exact (show _ = (6 : Int) by decide) | exact (show _ = (7 : Int) by decide) | exact (show _ = (8 : Int) by decide))
  (k_with "exec For Name Subscript cons nil" => (k_here; (rename Fr _ _ _ _ => lF'); (with_unfolding_all refine' For_invVF lF' ?kqk1 ?kqk2 ?_; (case kqk1 => exact rfl); (case kqk2 => exact rfl); k_whole)))
  (k_with "call builtin:min cons nil" => (k_here; (with_reducible show wpAny _ _ (call (Value.builtin _) [Value.int _ _, Value.int _ _]) _ _ _); k_dflt (refine' min_le_N ?kqab ?kqhh ?kqF ?kqN ?_; (case kqab => decide); (case kqhh => exact rfl); (case kqF => k_asm); (case kqN => k_asm)); intro h' tk' F' N'; (try k_sweep)))
  (k_with "binaryOp Sub int int" => (k_here; k_dflt (refine' sub_int_k ?kqhk ?_; (case kqhk => walk_at "num"))))
  (k_with "RangeRest" => (with_unfolding_all first | (refine' rr_succ ?kqhv (fun t' h' tk' F' N' => ?_); (case kqhv => walk_at "num")) | (refine RangeRest.zero (fun h' tk' F' N' => ?_))))
  (k_with "eval ListComp" => (k_here; k_dflt (refine LCg.ListComp_U (F₀ := by k_asm) (by with_unfolding_all rfl) (by decide) (by rfl) (by decide) (by rfl) ?_); k_dflt lcg_toSrc))
  (k_with "CompSrc" => (k_here; k_dflt (first
  | (refine LCg.CompSrc.ledger (by rfl) (by k_asm) (by k_asm) (by k_mem) (by first | exact Nat.le_of_ble_eq_true rfl | size_fits) ?_; intro g'; lcg_lit)
  | (refine LCg.CompSrc.range (by rfl) (by k_asm) (by k_asm) (by assumption) (by first | decide | rfl) (by first | rfl | decide) (by first | exact Nat.le_of_ble_eq_true rfl | size_fits) ?_; intro g'; lcg_lit))))
  (k_with "CompRest" => (with_unfolding_all first
  | (refine LCg.CompRest.succ ?_; intro v' I' oI' C' oC' D' m' h' tk' E' hv' hC' hx' F' N' off' ne'; (first | lcg_open hv' | (obtain ⟨t9', hv9'⟩ := hv'; subst hv9')); (have o9' := offM_of off'); (try simp only [LCg.Off3, and_true] at off'))
  | refine LCg.CompRest.zero ?_))
  (k_with "CompEnd" => (k_dflt (refine' comp_end ?kqF ?kqN ?kqo ?kqS ?_; (case kqF => k_asm); (case kqN => k_asm); (case kqo => first | exact LCg.Off3.of (by assumption) | (refine' off3_next ?kqSp ?kqm ?kqs ?kqa; (case kqSp => walk_at "splits"); (case kqm => assumption); (case kqs => walk_at "sub"); (case kqa => assumption))); (case kqS => lcg_src))))
  (k_with "pull" => first | exact Pull.here | (refine' Pull.next ?kqp; (case kqp => walk_at "pull")))
  (k_with "UnrEnd" => (k_dflt (refine' unr_end ?kqF ?kqN ?kqp ?kqo ?_; (case kqF => k_asm); (case kqN => k_asm); (case kqp => walk_at "pull"); (case kqo => k_all))))
  (k_with "UnrEnd" => (k_dflt (refine' unr_endL ?kqF ?kqN ?kqp ?kqo ?kqm ?_; (case kqF => k_asm); (case kqN => k_asm); (case kqp => walk_at "pull"); (case kqo => k_all); (case kqm => k_mem))))
  (k_with "pyIter ref" => ((with_reducible show wpAny _ _ (pyIter (Value.ref _)) (fun it s₂ => LoopAtV _ _ _ _ _ _ _ _ _ it s₂) _ _); k_here; k_dflt (refine' iter_listL ?kqhh ?kqF ?kqN ?kqm ?_; (case kqhh => exact rfl); (case kqF => k_asm); (case kqN => k_asm); (case kqm => k_mem)); intro i' l1; (try k_lt l1)))
  (k_with "FinE" => ((unfold LCg.FinE); intro D' h' tk' F' N' o1'; (have o8' := offD_of o1'); (try simp only [LCg.Off1, and_true] at o1'); (try simp only [List.nil_append, List.cons_append] at N'); (try dsimp only)))
  (k_with "FinA" => ((unfold LCg.FinA); intro D' h' tk' F' N' o1'; (have o8' := offD_of o1'); (try simp only [LCg.Off1, and_true] at o1'); (try simp only [List.nil_append, List.cons_append] at N'); (try dsimp only)))
  (k_with "k_mem" => first | ((with_reducible refine mem_appL ?_); ktr_member) | ((with_reducible refine mem_appR ?_); ktr_member) | ((with_reducible refine mem_raw ?_); ktr_member))
  (k_with "execs cons Assign cons" => ((with_reducible refine wpAny_execs_cons ?_); try dsimp only))
  (k_with "exec While Compare cons nil" => (k_here; k_dflt (refine whl_start 100 ?_)))
  (k_with "pyIter ref" => ((with_reducible show wpAny _ _ (pyIter (Value.ref _)) (fun it s₂ => LoopAtV _ _ _ _ _ _ _ _ _ it s₂) _ _); k_here; l_hasStore; first | k_rangeUnr | krs_unr))
  (k_with "enterC" => (refine' code_defC ?kqk1 ?kqk2 ?kqk3 ?kqk4 ?kqk5 ?kqkA ?kqkF ?kqkK ?kqk6 ?kqk7 ?kqk8 ?kqk9 ?kqkB ?kqkD ?_ ?kqc2 ?kqc3 ?kqc4; (case kqkA => exact rfl); (case kqkF => exact rfl); (case kqkK => assumption); (case kqk1 => k_asm); (case kqk2 => k_asm); (case kqk3 => k_asm); (case kqk4 => k_asm); (case kqk5 => k_asm); (case kqk6 => k_is); (case kqk7 => k_is); (case kqk8 => ktr_room); (case kqk9 => exact BindsTo.of_eq rfl); (case kqkB => exact rfl); (case kqkD => decide +kernel); (case kqc2 => exact rfl); (case kqc3 => exact rfl); (case kqc4 => exact rfl); k_whole; intro g' L' h' tk' cells' FG' F' N' Y' B' X' T' l1; (have l9 := hi_of l1); (have l8 := hi_succ l9); (have l7 := hi_succ2 l9); (have l6 := hi_succ3 l9); (have l5 := hi_succ4 l9); (try k_lt l1); k_cells Y'; (try simp only [List.cons_append, List.nil_append] at N'); (try dsimp only); (try k_fold)))
  (k_with "split" => first | exact Split.app | (refine' Split.cons ?kqx; (case kqx => walk_at "split")) | exact Split.nil)
  (k_with "apart" => first | assumption | exact Apart.nil | (refine' Apart.cons ?kqa ?kqb; (case kqa => walk_at "notin"); (case kqb => walk_at "apart")) | exact Apart.sub (by assumption) (by walk_at "sub"))
  (k_with "kind" => first | exact rfl | assumption)
  trivial

theorem off_adr {D : Addr} : ∀ {l l' : List (Addr × Obj)}, OffD D l → l.map Prod.fst = l'.map Prod.fst → OffD D l'
  | _, [], _, _ => fun _ h => nomatch h
  | [], _ :: _, _, e => by simp at e
  | p :: r, q :: r', h, e => by
    simp only [List.map_cons, List.cons.injEq] at e
    intro x hx
    rcases List.mem_cons.mp hx with rfl | hx
    · rw [← e.1]; exact h _ List.mem_cons_self
    · exact off_adr (fun y hy => h y (List.mem_cons_of_mem _ hy)) e.2 x hx
theorem offlt3 {D a b c : Addr} {o1 o2 o3 : Obj} {r : List (Addr × Obj)} (h : @LT.lt Nat _ a D ∧ @LT.lt Nat _ b D ∧ @LT.lt Nat _ c D ∧ AllLt D r) : OffD D ((a, o1) :: (b, o2) :: (c, o3) :: r) := by
  obtain ⟨h1, h2, h3, h4⟩ := h
  have h4 := ktn_ltOf h4
  intro p hp
  rcases List.mem_cons.mp hp with rfl | hp
  · exact Nat.ne_of_lt h1
  rcases List.mem_cons.mp hp with rfl | hp
  · exact Nat.ne_of_lt h2
  rcases List.mem_cons.mp hp with rfl | hp
  · exact Nat.ne_of_lt h3
  · exact Nat.ne_of_lt (h4 p hp)
theorem offlt4 {D a b c d : Addr} {o1 o2 o3 o4 : Obj} {r : List (Addr × Obj)} (h : @LT.lt Nat _ a D ∧ @LT.lt Nat _ b D ∧ @LT.lt Nat _ c D ∧ @LT.lt Nat _ d D ∧ AllLt D r) : OffD D ((a, o1) :: (b, o2) :: (c, o3) :: (d, o4) :: r) := by
  obtain ⟨h1, h'⟩ := h
  intro p hp
  rcases List.mem_cons.mp hp with rfl | hp
  · exact Nat.ne_of_lt h1
  · exact offlt3 h' p hp
theorem kwZai1 : True := by
  (k_with "call ref" => ((with_reducible show wpAny _ _ (call (Value.ref 212) _) _ _ _); k_here; k_dflt (refine' c_newnets ?kqB ?kqF ?kqX ?kqN ?kqT ?kqhk ?kqhr ?kqhNd ?kqhN ?kqhd ?kqhu ?_; (case kqB => k_asm); (case kqF => k_asm); (case kqX => k_asm); (case kqN => k_asm); (case kqT => k_asm); (case kqhk => walk_at "kind"); (case kqhr => k_all); (case kqhNd => assumption); (case kqhN => k_mem); (case kqhd => ktr_room); (case kqhu => ktr_units)); intro D' t0' t1' t2' tc' h' tk' F' N' o8'; (try k_sweep)))
  trivial

section
variable {prog : Program} {w : World} {mg mb : Str → Option Value} {mean : ExcName → Option Value} {loose : List Str} {dp un : Nat} {gd : Option (List Code)} {cn : Str} {cs : Scope} {L a : Addr} {ccd : Value} {cl : List (Str × Addr)} {outer : List Env} {A₀ : Around}
  {base h₀ : Heap} {m : Str → Option Value} {s : Shared} {Q E : Value → Shared → Prop} {A : NA} {news own nt : List (Addr × Obj)} {gs : List (Int × RF)} {R : Nat}

theorem c_addin {cc : Int} {tc tw tn : Tok} {nmS : Str} {its : Array Value} {ei : Nat} {rest : List (Addr × Obj)}
    (B : Below A₀ base outer h₀) (F : Fr h₀ L s.heap m) (X : (hd93.heap_1 w.params).In h₀) (N : News h₀ L s.heap ((A.dN, netD w.params A cc tc) :: (A.I, listOf its ei) :: rest)) (T : Top hd93.view_1 loose mean mg mb h₀) (hk : cs.kind = .function)
    (hr : ∀ p ∈ rest, p.1 ≠ A.dN) (hrI : ∀ p ∈ rest, p.1 ≠ A.I) (hId : A.I ≠ A.dN) (hNd : A.N ≠ A.dN) (hN : (A.N, instObj 259 A.dN) ∈ rest) (hsz : its.size ≤ 5) (hd : dp + 40 < recursionLimit) (hu : un + 320 < cLine)
    (ret : ∀ t l2 l1 e2 t0 t1 t2 tc' h' tk', Fr h₀ L h' m → News h₀ L h' ((t, tupOf [.str nmS tn, .ref l2]) :: (l2, listOf [Value.int cc t0, Value.int (cc + 1) t1, Value.int (cc + 1 + 1) t2].toArray e2) :: (l1, listOf [Value.int cc t0, Value.int (cc + 1) t1, Value.int (cc + 1 + 1) t2].toArray 3) :: ((A.dN, netD w.params A (cc + 1 + 1 + 1) tc') :: (A.I, listOf (its.push (.ref t)) (ei + 1)) :: rest)) → OffD l1 ((A.dN, netD w.params A (cc + 1 + 1 + 1) tc') :: (A.I, listOf (its.push (.ref t)) (ei + 1)) :: rest) → OffD l2 ((l1, listOf [Value.int cc t0, Value.int (cc + 1) t1, Value.int (cc + 1 + 1) t2].toArray 3) :: ((A.dN, netD w.params A (cc + 1 + 1 + 1) tc') :: (A.I, listOf (its.push (.ref t)) (ei + 1)) :: rest)) → OffD t ((l2, listOf [Value.int cc t0, Value.int (cc + 1) t1, Value.int (cc + 1 + 1) t2].toArray e2) :: (l1, listOf [Value.int cc t0, Value.int (cc + 1) t1, Value.int (cc + 1 + 1) t2].toArray 3) :: ((A.dN, netD w.params A (cc + 1 + 1 + 1) tc') :: (A.I, listOf (its.push (.ref t)) (ei + 1)) :: rest)) → Q (.ref l1) { s with heap := h', toks := tk' }) :
    wpAny (model prog w) (ktrTop dp un gd cn cs L a ccd cl outer) (call (.ref 219) [.ref A.N, .str nmS tn, .int 3 tw]) Q E s := by
  refine wpAny_call ?_
  k_dflt (ktr_enter)
  rename Fr _ _ _ (fun y => List.lookup y _) => FN
  replace FN : Fr _ _ _ (fun y9 => List.lookup y9 [(Str.ofString "width", .int 3 tw), (Str.ofString "name", .str nmS tn), (Str.ofString "self", .ref A.N)]) := FN
  generalize (Shared.toks s + List.length _) = tk0
  k_steps
  all_goals (
    refine' ret _ _ _ _ _ _ _ _ _ _ ?F ?N ?O1 ?O2 ?O3
    case F => k_asm
    case N => assumption
    case O1 => (rename OffD _ _ => o8; exact off_adr o8 rfl)
    case O2 => exact offlt3 (by assumption)
    case O3 => exact offlt4 (by assumption))
end
end Mine93
-- Znu
namespace Mine93

theorem kwZnu0 : True := by
  k_with_none
  (k_with "room" => first | exact Nat.le_of_ble_eq_true rfl | exact room2 (by assumption) (Nat.le_of_ble_eq_true rfl) | exact room3 (by assumption) (Nat.le_of_ble_eq_true rfl) | exact room1 (by assumption))
  (k_with "units" => first | exact Nat.le_of_ble_eq_true rfl | exact room2 (by assumption) (Nat.le_of_ble_eq_true rfl) | exact room3 (by assumption) (Nat.le_of_ble_eq_true rfl) | exact room1 (by assumption))
  (k_with "splits" => first | exact Split.app | (refine' Split.cons ?kqx; (case kqx => walk_at "splits")) | exact Split.nil)
  (k_with "sub" => ((repeat (first | exact sub_refl | exact sub_appL | exact sub_appR | (refine sub_cons ?kqmem ?_; (case kqmem => k_mem)) | refine sub_tail ?_)); done))
  (k_with "gsub" => ((repeat (first | exact fun _ h => h | (refine gsub_cons ?kqmem ?_; (case kqmem => k_mem)) | refine gsub_tail ?_)); done))
  (k_with "lts" => first | exact lt0 (by assumption) | exact lt1 (by assumption) | exact lt2 (by assumption) | exact lt3 (by assumption) | exact lt4 (by assumption) | exact lt5 (by assumption) | exact lt6 (by assumption) | exact lt7 (by assumption) | exact lt8 (by assumption) | exact lt9 (by assumption) | exact lt10 (by assumption) | exact lt11 (by assumption) | exact lt12 (by assumption) | exact lt13 (by assumption) | exact lt14 (by assumption) | exact lt15 (by assumption) | exact lt16 (by assumption) | exact lt17 (by assumption) | exact lt18 (by assumption) | exact lt19 (by assumption))
  (k_with "notin" => first | assumption | exact Apart.at (by assumption) (by k_mem) | exact OffM.notI (by assumption) (by walk_at "sub") | exact OffM.notC (by assumption) (by walk_at "sub") | exact OffM.notD (by assumption) (by walk_at "sub") | exact Hi.not (by assumption) (by walk_at "sub") | exact OffD.not (by assumption) (by walk_at "sub") | exact not_of_lt (by walk_at "lts") (by walk_at "sub"))
  (k_with "ina" => first | exact InA.here | (refine' InA.next ?kqp; (case kqp => walk_at "ina")) | fail)
  (k_with "k_ne" => ((try dsimp only); first | assumption | exact Ne.symm (by assumption) | (refine' OffD.at ?kqh ?kqm; (case kqh => assumption); (case kqm => walk_at "ina")) | (refine' OffD.at' ?kqh ?kqm; (case kqh => assumption); (case kqm => walk_at "ina")) | exact ne_lt' (by assumption) | exact ne_gt' (by assumption) | fail))
  (k_with "k_all" => first | exact List.forall_mem_nil _ | (refine' List.forall_mem_cons.mpr ⟨?kqa, ?kqb⟩; (case kqa => k_ne); (case kqb => k_all)) | assumption | exact Apart.ne (by assumption) (by k_mem) | (refine all_app ?_ ?_ <;> k_all) | exact Hi.ne (by assumption) (by walk_at "sub") | exact ne_of_lt' (by walk_at "lts") (by walk_at "sub") | exact OffD.ne' (by assumption) (by walk_at "sub"))
  (k_with "subscriptTail Name Name ref int" => (k_here; (with_reducible show wpAny _ _ (subscriptTail _ _ (Value.ref _) (Value.int _ _)) _ _ _); k_dflt (refine' item_own_neg ?kqN ?kqm ?kqa ?kqb ?kqc ?kqx ?_; (case kqN => k_asm); (case kqm => k_mem); (case kqa => decide); (case kqb => decide); (case kqc => decide); (case kqx => rfl))))
  (k_with "subscriptTail Name Name ref int" => (k_here; (with_reducible show wpAny _ _ (subscriptTail _ _ (Value.ref _) (Value.int _ _)) _ _ _); k_dflt (refine' item_own ?kqN ?kqm ?kqa ?kqb ?kqx ?_; (case kqN => k_asm); (case kqm => k_mem); (case kqa => decide); (case kqb => decide); (case kqx => rfl))))
  (k_with "subscriptTail Name BinOp ref int" => (k_here; (with_reducible show wpAny _ _ (subscriptTail _ _ (Value.ref _) (Value.int _ _)) _ _ _); k_dflt (refine' item_own_neg ?kqN ?kqm ?kqa ?kqb ?kqc ?kqx ?_; (case kqN => k_asm); (case kqm => k_mem); (case kqa => decide); (case kqb => decide); (case kqc => decide); (case kqx => rfl))))
  (k_with "subscriptTail Name BinOp ref int" => (k_here; (with_reducible show wpAny _ _ (subscriptTail _ _ (Value.ref _) (Value.int _ _)) _ _ _); k_dflt (refine' item_own ?kqN ?kqm ?kqa ?kqb ?kqx ?_; (case kqN => k_asm); (case kqm => k_mem); (case kqa => decide); (case kqb => decide); (case kqx => rfl))))
  (k_with "subscriptTail Name UnaryOp ref int" => (k_here; (with_reducible show wpAny _ _ (subscriptTail _ _ (Value.ref _) (Value.int _ _)) _ _ _); k_dflt (refine' item_own_neg ?kqN ?kqm ?kqa ?kqb ?kqc ?kqx ?_; (case kqN => k_asm); (case kqm => k_mem); (case kqa => decide); (case kqb => decide); (case kqc => decide); (case kqx => rfl))))
  (k_with "subscriptTail Name UnaryOp ref int" => (k_here; (with_reducible show wpAny _ _ (subscriptTail _ _ (Value.ref _) (Value.int _ _)) _ _ _); k_dflt (refine' item_own ?kqN ?kqm ?kqa ?kqb ?kqx ?_; (case kqN => k_asm); (case kqm => k_mem); (case kqa => decide); (case kqb => decide); (case kqx => rfl))))
  (k_with "subscriptTail Name Constant ref int" => (k_here; (with_reducible show wpAny _ _ (subscriptTail _ _ (Value.ref _) (Value.int _ _)) _ _ _); k_dflt (refine' item_own_neg ?kqN ?kqm ?kqa ?kqb ?kqc ?kqx ?_; (case kqN => k_asm); (case kqm => k_mem); (case kqa => decide); (case kqb => decide); (case kqc => decide); (case kqx => rfl))))
  (k_with "subscriptTail Name Constant ref int" => (k_here; (with_reducible show wpAny _ _ (subscriptTail _ _ (Value.ref _) (Value.int _ _)) _ _ _); k_dflt (refine' item_own ?kqN ?kqm ?kqa ?kqb ?kqx ?_; (case kqN => k_asm); (case kqm => k_mem); (case kqa => decide); (case kqb => decide); (case kqx => rfl))))
  (k_with "subscriptTail" => (k_here; (with_reducible show wpAny _ _ (subscriptTail _ _ (Value.ref _) (Value.int _ _)) _ _ _); k_dflt (refine' item_own_neg ?kqN ?kqm ?kqa ?kqb ?kqc ?kqx ?_; (case kqN => k_asm); (case kqm => k_mem); (case kqa => decide); (case kqb => decide); (case kqc => decide); (case kqx => rfl))))
  (k_with "subscriptTail" => (k_here; (with_reducible show wpAny _ _ (subscriptTail _ _ (Value.ref _) (Value.int _ _)) _ _ _); k_dflt (refine' item_own ?kqN ?kqm ?kqa ?kqb ?kqx ?_; (case kqN => k_asm); (case kqm => k_mem); (case kqa => decide); (case kqb => decide); (case kqx => rfl))))
  (k_with "num" => first | exact (show _ = (0 : Int) by decide) | exact (show _ = (1 : Int) by decide) | exact (show _ = (2 : Int) by decide) | exact (show _ = (3 : Int) by decide) | exact (show _ = (4 : Int) by decide) | exact (show _ = (5 : Int) by decide) | exact (show _ = (6 : Int) by decide) | exact (show _ = (7 : Int) by decide) | exact (show _ = (8 : Int) by decide))
  (k_with "exec For Name Subscript cons nil" => (k_here; (rename Fr _ _ _ _ => lF'); (with_unfolding_all refine' For_invVF lF' ?kqk1 ?kqk2 ?_; (case kqk1 => exact rfl); (case kqk2 => exact rfl); k_whole)))
  (k_with "call builtin:min cons nil" => (k_here; (with_reducible show wpAny _ _ (call (Value.builtin _) [Value.int _ _, Value.int _ _]) _ _ _); k_dflt (refine' min_le_N ?kqab ?kqhh ?kqF ?kqN ?_; (case kqab => decide); (case kqhh => exact rfl); (case kqF => k_asm); (case kqN => k_asm)); intro h' tk' F' N'; (try k_sweep)))
  (k_with "binaryOp Sub int int" => (k_here; k_dflt (refine' sub_int_k ?kqhk ?_; (case kqhk => walk_at "num"))))
  (k_with "RangeRest" => (with_unfolding_all first | (refine' rr_succ ?kqhv (fun t' h' tk' F' N' => ?_); (case kqhv => walk_at "num")) | (refine RangeRest.zero (fun h' tk' F' N' => ?_))))
  (k_with "eval ListComp" => (k_here; k_dflt (refine LCg.ListComp_U (F₀ := by k_asm) (by with_unfolding_all rfl) (by decide) (by rfl) (by decide) (by rfl) ?_); k_dflt lcg_toSrc))
  (k_with "CompSrc" => (k_here; k_dflt (first
  | (refine LCg.CompSrc.ledger (by rfl) (by k_asm) (by k_asm) (by k_mem) (by first | exact Nat.le_of_ble_eq_true rfl | size_fits) ?_; intro g'; lcg_lit)
  | (refine LCg.CompSrc.range (by rfl) (by k_asm) (by k_asm) (by assumption) (by first | decide | rfl) (by first | rfl | decide) (by first | exact Nat.le_of_ble_eq_true rfl | size_fits) ?_; intro g'; lcg_lit))))
  (k_with "CompRest" => (with_unfolding_all first
  | (refine LCg.CompRest.succ ?_; intro v' I' oI' C' oC' D' m' h' tk' E' hv' hC' hx' F' N' off' ne'; (first | lcg_open hv' | (obtain ⟨t9', hv9'⟩ := hv'; subst hv9')); (have o9' := offM_of off'); (try simp only [LCg.Off3, and_true] at off'))
  | refine LCg.CompRest.zero ?_))
  (k_with "CompEnd" => (k_dflt (refine' comp_end ?kqF ?kqN ?kqo ?kqS ?_; (case kqF => k_asm); (case kqN => k_asm); (case kqo => first | exact LCg.Off3.of (by assumption) | (refine' off3_next ?kqSp ?kqm ?kqs ?kqa; (case kqSp => walk_at "splits"); (case kqm => assumption); (case kqs => walk_at "sub"); (case kqa => assumption))); (case kqS => lcg_src))))
  (k_with "pull" => first | exact Pull.here | (refine' Pull.next ?kqp; (case kqp => walk_at "pull")))
  (k_with "UnrEnd" => (k_dflt (refine' unr_end ?kqF ?kqN ?kqp ?kqo ?_; (case kqF => k_asm); (case kqN => k_asm); (case kqp => walk_at "pull"); (case kqo => k_all))))
  (k_with "UnrEnd" => (k_dflt (refine' unr_endL ?kqF ?kqN ?kqp ?kqo ?kqm ?_; (case kqF => k_asm); (case kqN => k_asm); (case kqp => walk_at "pull"); (case kqo => k_all); (case kqm => k_mem))))
  (k_with "pyIter ref" => ((with_reducible show wpAny _ _ (pyIter (Value.ref _)) (fun it s₂ => LoopAtV _ _ _ _ _ _ _ _ _ it s₂) _ _); k_here; k_dflt (refine' iter_listL ?kqhh ?kqF ?kqN ?kqm ?_; (case kqhh => exact rfl); (case kqF => k_asm); (case kqN => k_asm); (case kqm => k_mem)); intro i' l1; (try k_lt l1)))
  (k_with "FinE" => ((unfold LCg.FinE); intro D' h' tk' F' N' o1'; (have o8' := offD_of o1'); (try simp only [LCg.Off1, and_true] at o1'); (try simp only [List.nil_append, List.cons_append] at N'); (try dsimp only)))
  (k_with "FinA" => ((unfold LCg.FinA); intro D' h' tk' F' N' o1'; (have o8' := offD_of o1'); (try simp only [LCg.Off1, and_true] at o1'); (try simp only [List.nil_append, List.cons_append] at N'); (try dsimp only)))
  (k_with "k_mem" => first | ((with_reducible refine mem_appL ?_); ktr_member) | ((with_reducible refine mem_appR ?_); ktr_member) | ((with_reducible refine mem_raw ?_); ktr_member))
  (k_with "execs cons Assign cons" => ((with_reducible refine wpAny_execs_cons ?_); try dsimp only))
  (k_with "exec While Compare cons nil" => (k_here; k_dflt (refine whl_start 100 ?_)))
  (k_with "pyIter ref" => ((with_reducible show wpAny _ _ (pyIter (Value.ref _)) (fun it s₂ => LoopAtV _ _ _ _ _ _ _ _ _ it s₂) _ _); k_here; l_hasStore; first | k_rangeUnr | krs_unr))
  (k_with "enterC" => (refine' code_defC ?kqk1 ?kqk2 ?kqk3 ?kqk4 ?kqk5 ?kqkA ?kqkF ?kqkK ?kqk6 ?kqk7 ?kqk8 ?kqk9 ?kqkB ?kqkD ?_ ?kqc2 ?kqc3 ?kqc4; (case kqkA => exact rfl); (case kqkF => exact rfl); (case kqkK => assumption); (case kqk1 => k_asm); (case kqk2 => k_asm); (case kqk3 => k_asm); (case kqk4 => k_asm); (case kqk5 => k_asm); (case kqk6 => k_is); (case kqk7 => k_is); (case kqk8 => ktr_room); (case kqk9 => exact BindsTo.of_eq rfl); (case kqkB => exact rfl); (case kqkD => decide +kernel); (case kqc2 => exact rfl); (case kqc3 => exact rfl); (case kqc4 => exact rfl); k_whole; intro g' L' h' tk' cells' FG' F' N' Y' B' X' T' l1; (have l9 := hi_of l1); (have l8 := hi_succ l9); (have l7 := hi_succ2 l9); (have l6 := hi_succ3 l9); (have l5 := hi_succ4 l9); (try k_lt l1); k_cells Y'; (try simp only [List.cons_append, List.nil_append] at N'); (try dsimp only); (try k_fold)))
  (k_with "split" => first | exact Split.app | (refine' Split.cons ?kqx; (case kqx => walk_at "split")) | exact Split.nil)
  (k_with "apart" => first | assumption | exact Apart.nil | (refine' Apart.cons ?kqa ?kqb; (case kqa => walk_at "notin"); (case kqb => walk_at "apart")) | exact Apart.sub (by assumption) (by walk_at "sub"))
  (k_with "kind" => first | exact rfl | assumption)
  trivial

theorem wnat_lt (f : RF) : ∀ k, wnat f k < 2 ^ k
  | 0 => by simp [wnat]
  | k + 1 => by
    have := wnat_lt f k
    have := Bool.toNat_le (f k)
    rw [wnat, Nat.pow_succ]
    have : (f k).toNat * 2 ^ k ≤ 1 * 2 ^ k := Nat.mul_le_mul_right _ (by omega)
    omega
theorem wnat_bit (f : RF) : ∀ k r, r < k → wnat f k / 2 ^ r % 2 = (f r).toNat
  | 0, r, h => absurd h (Nat.not_lt_zero _)
  | k + 1, r, h => by
    rw [wnat]
    by_cases e : r = k
    · subst e
      rw [Nat.add_mul_div_right _ _ (Nat.two_pow_pos r), Nat.div_eq_of_lt (wnat_lt f r), Nat.zero_add]
      have := Bool.toNat_le (f r)
      omega
    · have hr : r < k := by omega
      obtain ⟨q, rfl⟩ : ∃ q, k = r + 1 + q := ⟨k - r - 1, by omega⟩
      have e2 : (f (r + 1 + q)).toNat * 2 ^ (r + 1 + q) = ((f (r + 1 + q)).toNat * 2 ^ q * 2) * 2 ^ r := by
        rw [Nat.pow_add, Nat.pow_add, Nat.pow_one]; ac_rfl
      rw [e2, Nat.add_mul_div_right _ _ (Nat.two_pow_pos r), Nat.add_mul_mod_self_right]
      exact wnat_bit f _ r hr
section
variable {prog : Program} {w : World} {A : Around} {E : Value → Shared → Prop} {s : Shared} {h₀ : Heap} {L W : Addr} {news : List (Addr × Obj)} {oW : Obj} {kvs : List (Int × Value)} {n : Int} {t u : Tok} {v : Value} {value slice : Expr} {Q : Value → Shared → Prop} {r x : Nat}
theorem get_w (N : News h₀ L s.heap news) (hP : (W, oW) ∈ news) (hd : oW.IsDictOf (intKind prog w) kvs) (hv : valueAt kvs n = some v)
    (h : ∀ tk, Q v { s with toks := tk })
    (hs : subscripted slice false (.ref W) (.int n t) = operate [.ref W, .int n t] (getItem (.ref W) (.int n t)) := by with_unfolding_all rfl) :
    wpAny (model prog w) A (subscriptTail value slice (.ref W) (.int n t)) Q E s :=
  get_opp N hP hd (by rw [hv]; rfl) (fun v' tk e => by rw [hv] at e; cases e; exact h tk) hs
theorem pow2_w (hr : r < 200) (h : Q (.int ((2 ^ r : Nat) : Int) s.toks) { s with toks := s.toks + 1 }) : wpAny (model prog w) A (binaryOp .Pow (.int 2 t) (.int (r : Int) u)) Q E s := by
  refine pow_int (by omega) ?_ ?_
  · have : (Builtin.Int.intBits 2 : Int) = 2 := by decide
    rw [this]; omega
  · have e : (2 : Int) ^ (r : Int).toNat = ((2 ^ r : Nat) : Int) := by simp
    rw [e]; exact h
theorem fd_w (hr : r < 200) (h : Q (.int ((x / 2 ^ r : Nat) : Int) s.toks) { s with toks := s.toks + 1 }) : wpAny (model prog w) A (binaryOp .FloorDiv (.int (x : Int) t) (.int ((2 ^ r : Nat) : Int) u)) Q E s := by
  have p := Nat.two_pow_pos r
  refine floordiv_int (by omega) ?_ (Or.inl (PyProof.noPylong_of_log2 ?_))
  · have e : Int.fdiv (x : Int) ((2 ^ r : Nat) : Int) = ((x / 2 ^ r : Nat) : Int) := by
      rw [Int.fdiv_eq_ediv_of_nonneg _ (by omega)]; rfl
    rw [e]; exact h
  · rw [Int.natAbs_natCast, Nat.log2_two_pow]; omega
end
def NInv (us : List NB) (i : Nat) (news0 : List (Addr × Obj)) (j : Nat) (ys : List Value) (news : List (Addr × Obj)) : Prop :=
  ∃ zs : List Int, IntsAre ys zs ∧ zs.sum = (num (us.take j) i : Int) ∧ news = news0
theorem num_end {h₀ h' : Heap} {L I C D : Addr} {m : Str → Option Value} {s : Shared} {oI oC : Obj} {tk j i : Nat} {news : List (Addr × Obj)} {ys : List Value} {zs : List Int} {us : List NB} {b : NB} {t : Tok} (off : LCg.Off3 I C D news)
    (N : News h₀ L h' ((I, oI) :: (C, oC) :: (D, LCg.lst ys) :: news)) (F : Fr h₀ L h' m) (hi : IntsAre ys zs) (hz : zs.sum = (num (us.take j) i : Int)) (hb : us[j]? = some b) (h64 : i < 64) :
    LCg.CompEnd h₀ L m s I oI C oC D (LCg.lst ys) (fun _ => True) (fun y n => NInv us i news (j + 1) (ys ++ [y]) n) (.int (Int.fmod ((wnat b.f 64 / 2 ^ i : Nat) : Int) 2 * ((2 ^ j : Nat) : Int)) t) { s with heap := h', toks := tk } := by
  refine LCg.CompEnd.intro F N _ (fun _ h => h) off trivial ⟨zs ++ [_], IntsAre.append hi (.cons _ _ .nil), ?_, rfl⟩
  rw [List.sum_append, hz, num_take hb]
  have e : Int.fmod ((wnat b.f 64 / 2 ^ i : Nat) : Int) 2 = ((b.f i).toNat : Int) := by
    rw [Int.fmod_eq_emod_of_nonneg _ (by decide), ← wnat_bit b.f 64 i h64]; rfl
  rw [e]
  simp
theorem kwZnu1 : True := by
  (k_with "CompSrc" => (refine hold ?_))
  (k_with "CompEnd" => (refine hold ?_))
  (k_with "subscriptTail Name Name ref int" => ((with_reducible show wpAny _ _ (subscriptTail _ _ (Value.ref _) (Value.int _ _)) _ _ _); k_here; k_dflt (refine' item_nb ?kqN ?kqm ?kqk ?kqh9 ?kqx ?_; (case kqN => k_asm); (case kqm => k_mem); (case kqk => exact rfl); (case kqh9 => assumption); (case kqx => assumption))))
  (k_with "subscriptTail Name Subscript ref int" => ((with_reducible show wpAny _ _ (subscriptTail _ _ (Value.ref _) (Value.int _ _)) _ _ _); k_here; k_dflt (refine' get_w ?kqN ?kqm ?kqd ?kqv ?_; (case kqN => k_asm); (case kqm => k_mem); (case kqd => k_asm); (case kqv => assumption)); intro tk'))
  (k_with "binaryOp Pow int int" => (k_here; (with_reducible refine pow2_w ?kqa ?_); (case kqa => omega)))
  (k_with "binaryOp FloorDiv int int" => (k_here; (with_reducible refine fd_w ?kqa ?_); (case kqa => omega)))
  (k_with "call builtin:sum cons nil" => ((with_reducible show wpAny _ _ (call (Value.builtin _) [Value.ref _]) _ _ _); k_here; k_dflt (refine' LCg.sum_ints ?kqF ?kqN ?kqhh ?kql ?kqi ?_; (case kqF => k_asm); (case kqN => k_asm); (case kqhh => exact rfl); (case kql => exact News.isList (by k_asm) (by k_mem)); (case kqi => assumption)); intro h' tk' t' F' N'))
  (k_with "call builtin:len cons nil" => ((with_reducible show wpAny _ _ (call (Value.builtin "len") [Value.ref _]) _ _ _); k_here; k_dflt (refine' len_nb ?kqN ?kqm ?kqhn ?kqh8 ?_; (case kqN => k_asm); (case kqm => k_mem); (case kqhn => assumption); (case kqh8 => first | assumption | exact small4 (by assumption)))))
  trivial

section
variable {prog : Program} {w : World} {mg mb : Str → Option Value} {mean : ExcName → Option Value} {loose : List Str} {dp un : Nat} {gd : Option (List Code)} {cn : Str} {cs : Scope} {L a : Addr} {ccd : Value} {cl : List (Str × Addr)} {outer : List Env} {A₀ : Around}
  {base h₀ : Heap} {m : Str → Option Value} {s : Shared} {Q E : Value → Shared → Prop} {A : NA} {news own nt : List (Addr × Obj)} {gs : List (Int × RF)} {R : Nat}

theorem c_number {W ln : Addr} {oW : Obj} {kvs : List (Int × Value)} {nu n r : Nat} {us : List NB} {tr : Tok}
    (B : Below A₀ base outer h₀) (F : Fr h₀ L s.heap m) (X : (hd93.heap_1 w.params).In h₀) (N : News h₀ L s.heap news) (T : Top hd93.view_1 loose mean mg mb h₀) (hk : cs.kind = .function)
    (hW : (W, oW) ∈ news) (hdW : oW.IsDictOf (intKind prog w) kvs) (hl : (ln, listOf (vals us) nu) ∈ news) (hn : us.length = n) (h4 : n ≤ 4) (hv : ∀ b ∈ us, ∃ t, valueAt kvs b.n = some (.int (wnat b.f 64 : Int) t)) (hr : r < 64) (hd : dp + 20 < recursionLimit) (hu : un + 160 < cLine)
    (ret : ∀ t h' tk', Fr h₀ L h' m → News h₀ L h' news → Q (.int (num us r : Int) t) { s with heap := h', toks := tk' }) :
    wpAny (model prog w) (ktrTop dp un gd cn cs L a ccd cl outer) (call (.ref 294) [.ref W, .ref ln, .int (r : Int) tr]) Q E s := by
  refine wpAny_call ?_
  k_dflt (walk_at "enterC")
  k_steps
  rename News _ _ _ _ => N1
  rename Fr _ _ _ _ => F1
  rename IsRange _ _ _ _ _ _ _ _ => hr1
  unfold Hold
  have ru := rng_up (n := n) (by omega)
  with_unfolding_all refine LCg.CompSrc.range (n := n) (by rfl) F1 N1 hr1 ru.1 ru.2 (by rw [sizeLine_eq]; omega) ?_
  intro gg
  refine' cr_inv (NInv us r ?nw) n ?step ?fin n 0 [] _ (Nat.zero_add _) ?init
  case init => refine' ⟨[], .nil, rfl, rfl⟩
  case step =>
    clear N1 F1 hr1
    rintro j ys news1 hj ⟨zs, hz, hzs, rfl⟩ v I oI C oC D m₂ hh tk E' hvv hC hx2 F2 N2 off ne
    obtain ⟨tv, rfl⟩ := hvv
    rw [Int.zero_add] at hx2
    have h9 : j < 9 := by omega
    obtain ⟨b, hb⟩ := getL hn hj
    obtain ⟨tb, hvb⟩ := hv b (List.mem_of_getElem? hb)
    k_steps
    unfold Hold
    rename News _ _ _ _ => NN
    exact num_end off NN (by k_asm) hz hzs hb hr
  case fin =>
    clear N1 F1 hr1
    rintro ys news1 ⟨zs, hz, hzs, rfl⟩
    k_steps
    rename News _ _ _ _ => NN
    rw [hzs, List.take_of_length_le (Nat.le_of_eq hn)]
    exact ret _ _ _ (by k_asm) fun p hp => NN p (.tail _ (.tail _ (.tail _ (.tail _ hp))))
end
end Mine93
-- Zn3
namespace Mine93
section
variable {prog : Program} {w : World} {A : Around} {E : Value → Shared → Prop} {s : Shared} {env : Env} {h₀ : Heap}
inductive CellSrc (prog : Program) (w : World) (A : Around) (E : Value → Shared → Prop) (h₀ : Heap) (env : Env) (x : Str) (body : List Stmt) (Q : Flow → Shared → Prop) (xv : Value) (s₁ : Shared) : Prop
  | mk (r : Addr) (a b : Int) (t u v : Tok) (n : Nat) (m : Str → Option Value) (news : List (Addr × Obj)) : (xv = .ref r) → (A.handled = none) → (IsRange s₁.heap r a b 1 t u v) → (Builtin.Range.small a b 1 = true) → (Builtin.Range.rangeSize a b 1 = (n : Int)) → (Fr h₀ env.locals s₁.heap m) → (News h₀ env.locals s₁.heap news) → (∀ I : Addr, (∀ p ∈ news, p.1 < I) → ∃ P : Nat → (Str → Option Value) → List (Addr × Obj) → Prop, P 0 m news ∧ (∀ j m news, j < n → P j m news → ∀ t h tk, Fr h₀ env.locals h m → News h₀ env.locals h ((I, itR (a + ((j + 1 : Nat) : Int)) ((n : Int) - ((j + 1 : Nat) : Int))) :: news) → (∀ p ∈ news, p.1 ≠ I) → wpAny (model prog w) A (storeName env x (.int (a + (j : Int)) t)) (fun _ s' => wpAny (model prog w) A (execs body env) (UnrPost h₀ env.locals { s₁ with heap := h, toks := tk } I (itR (a + ((j + 1 : Nat) : Int)) ((n : Int) - ((j + 1 : Nat) : Int))) (P (j + 1)) Q) E s') E { s₁ with heap := h, toks := tk }) ∧ (∀ m news, P n m news → ∀ h tk, Fr h₀ env.locals h m → News h₀ env.locals h news → Q .next { s₁ with heap := h, toks := tk })) → CellSrc prog w A E h₀ env x body Q xv s₁

theorem for_cell {m₀ : Str → Option Value} {x : Str} {px pos : Pos} {iter : Expr} {body : List Stmt} {Q : Flow → Shared → Prop} (_F₀ : Fr h₀ env.locals s.heap m₀)
    (h : wpAny (model prog w) A (eval iter env) (CellSrc prog w A E h₀ env x body Q) E s)
    (hs : ∀ x, foldedSetIterable iter env x = pure x := by intro _; rfl)
    (hE : PassesOwn (model prog w) A env E := by passes_own) :
    wpAny (model prog w) A (exec (.For (.Name x px) iter body [] pos) env) Q E s := by
  refine wpAny_For (wpAny_mono h (fun xv s₁ h₁ => ?_) fun _ _ e => e) hs
  obtain ⟨r, a, b, t, u, v, n, m, news, rfl, hh, hr, hsm, hn, F, N, rest⟩ := h₁
  refine wpAny_pyIter_range hr hsm ?_
  obtain ⟨P, p0, step, fin⟩ := rest s₁.heap.objs.size fun p hp => Heap.lt_size (N p hp).1
  have W : Walks prog w A s₁.heap.objs.size [s₁.heap.objs.size] [s₁.heap.objs.size] n (fun i v => i < n ∧ ∃ t, v = .int (a + i * 1) t)
      (fun i h => IsRangeIter h s₁.heap.objs.size (a + (i : Nat) * 1) ((n : Int) - (i : Nat)) 1) := (Walks.range hh _ a 1 n).bound
  have hI₀ := next_is_new F
  have hIL : env.locals ≠ s₁.heap.objs.size := Nat.ne_of_lt F.ns.lt
  refine codeAny_forLoop_any (R := fun r s' => match r with | .ok f => Q f s' | .error e => cameBackBy (model prog w) A env E e s')
    (fun k s' => ∃ h' tk i m' news', s' = { s₁ with heap := h', toks := tk } ∧ i ≤ n ∧ k = n + 1 - i ∧ IsRangeIter h' s₁.heap.objs.size (a + (i : Nat) * 1) ((n : Int) - (i : Nat)) 1 ∧ Fr h₀ env.locals h' m' ∧ News h₀ env.locals h' news' ∧ (∀ p ∈ news', p.1 ≠ s₁.heap.objs.size) ∧ P i m' news') ?_ (n + 1)
    ⟨_, _, 0, m, news, rfl, Nat.zero_le _, rfl, (by show IsRangeIter _ _ _ _ _; rw [hn]; simpa using Heap.get?_push_size _ rfl), F.push _, (fun p hp => ⟨Heap.get?_push_of_some _ (N p hp).1, (N p hp).2⟩), (fun p hp => Nat.ne_of_lt (Heap.lt_size (N p hp).1)), p0⟩
  rintro k s' ⟨h', tk, i, m', news', rfl, hi, rfl, hst, F', N', off, p⟩
  by_cases hlt : i < n
  · refine W.item i _ _ _ hlt hst fun v h₂ tk₂ hP hst₂ hk₂ => ?_
    obtain ⟨_, tv, rfl⟩ := hP
    have hst' : h₂.get? s₁.heap.objs.size = some (itR (a + ((i + 1 : Nat) : Int)) ((n : Int) - ((i + 1 : Nat) : Int))) := by
      have q : IsRangeIter h₂ s₁.heap.objs.size (a + ((i + 1 : Nat) : Int) * 1) ((n : Int) - ((i + 1 : Nat) : Int)) 1 := hst₂
      rw [Int.mul_one] at q
      exact q
    have e1 : a + (i : Int) * 1 = a + (i : Int) := by rw [Int.mul_one]
    rw [e1]
    have F₂ := LCg.fr_but F' hk₂ hIL hI₀
    have N₂ : News h₀ env.locals h₂ ((s₁.heap.objs.size, itR (a + ((i + 1 : Nat) : Int)) ((n : Int) - ((i + 1 : Nat) : Int))) :: news') := fun q hq => by
      rcases List.mem_cons.mp hq with rfl | hq
      · exact ⟨hst', Ne.symm hIL, hI₀⟩
      · exact LCg.news_but N' hk₂ off q hq
    refine wpAny_of_eq (show letOwnedTupleGo (.Name x px) _ _ = pure () from rfl) ?_
    refine wpAny_assign_Name ?_
    refine wpAny_passesOwn hE (wpAny_mono (step i m' news' hlt p tv h₂ tk₂ F₂ N₂ off) (fun _ s₃ h₃ => wpAny_passesOwn hE (wpAny_mono h₃ (fun f s₄ h₄ => ?_) fun _ _ e => e)) fun _ _ e => e)
    have z : UnrEnd h₀ env.locals { s₁ with heap := h₂, toks := tk₂ } s₁.heap.objs.size (itR (a + ((i + 1 : Nat) : Int)) ((n : Int) - ((i + 1 : Nat) : Int))) (P (i + 1)) s₄ →
        ∃ m, m < n + 1 - i ∧ ∃ h' tk i m' news', s₄ = { s₁ with heap := h', toks := tk } ∧ i ≤ n ∧ m = n + 1 - i ∧ IsRangeIter h' s₁.heap.objs.size (a + (i : Nat) * 1) ((n : Int) - (i : Nat)) 1 ∧ Fr h₀ env.locals h' m' ∧ News h₀ env.locals h' news' ∧ (∀ p ∈ news', p.1 ≠ s₁.heap.objs.size) ∧ P i m' news' := by
      rintro ⟨h₅, tk₅, m₅, n₅, rfl, F₅, N₅, o₅, p₅⟩
      refine ⟨n + 1 - (i + 1), by omega, h₅, tk₅, i + 1, m₅, n₅, rfl, hlt, rfl, ?_, F₅, (fun q hq => N₅ q (List.mem_cons_of_mem _ hq)), o₅, p₅⟩
      have q := (N₅ _ List.mem_cons_self).1
      show h₅.get? _ = _
      rw [Int.mul_one]
      exact q
    cases f with
    | ret v => exact h₄
    | brk => exact h₄
    | next => exact z h₄
    | cont => exact z h₄
  · obtain rfl : i = n := Nat.le_antisymm hi (Nat.not_lt.mp hlt)
    refine W.done _ _ _ hst fun h₂ tk₂ hk₂ => wpAny_execs_nil ?_
    exact fin m' news' p h₂ tk₂ (LCg.fr_but F' hk₂ hIL hI₀) (LCg.news_but N' hk₂ off)
inductive ListSrc (prog : Program) (w : World) (A : Around) (E : Value → Shared → Prop) (h₀ : Heap) (env : Env) (target : Expr) (body : List Stmt) (Q : Flow → Shared → Prop) (xv : Value) (s₁ : Shared) : Prop
  | mk (ax : Addr) (lo : Obj) (vs : List Value) (n : Nat) (m : Str → Option Value) (news : List (Addr × Obj)) : (xv = .ref ax) → (A.handled = none) → ((ax, lo) ∈ news) → (lo.cls = .type "list") → (lo.data = .seq vs.toArray n) → ((∀ v ∈ vs, ∃ T : Addr, v = .ref T)) → (Fr h₀ env.locals s₁.heap m) → (News h₀ env.locals s₁.heap news) → (∀ I : Addr, (∀ p ∈ news, p.1 < I) → ∃ P : Nat → (Str → Option Value) → List (Addr × Obj) → Prop, P 0 m news ∧ (∀ j m news, P j m news → (ax, lo) ∈ news) ∧ (∀ j m news v, vs[j]? = some v → P j m news → ∀ (it : Obj) h tk, it.cls = .type "list_iterator" → Fr h₀ env.locals h m → News h₀ env.locals h ((I, it) :: news) → (∀ p ∈ news, p.1 ≠ I) → wpAny (model prog w) A (assign target env v) (fun _ s' => wpAny (model prog w) A (execs body env) (UnrPost h₀ env.locals { s₁ with heap := h, toks := tk } I it (P (j + 1)) Q) E s') E { s₁ with heap := h, toks := tk }) ∧ (∀ m news, P vs.length m news → ∀ h tk, Fr h₀ env.locals h m → News h₀ env.locals h news → Q .next { s₁ with heap := h, toks := tk })) → ListSrc prog w A E h₀ env target body Q xv s₁

theorem for_list {m₀ : Str → Option Value} {target : Expr} {pos : Pos} {iter : Expr} {body : List Stmt} {Q : Flow → Shared → Prop} (_F₀ : Fr h₀ env.locals s.heap m₀)
    (h : wpAny (model prog w) A (eval iter env) (ListSrc prog w A E h₀ env target body Q) E s)
    (hlet : ∀ (T : Addr) (s : Shared) (I l : Addr) (i : Nat) (Q : Unit → Shared → Prop) (E : Value → Shared → Prop), s.heap.IsListIter I l i → Q () s → wpAny (model prog w) A (letOwnedTupleGo target (.ref I) (.ref T)) Q E s)
    (hs : ∀ x, foldedSetIterable iter env x = pure x := by intro _; rfl)
    (hE : PassesOwn (model prog w) A env E := by passes_own) :
    wpAny (model prog w) A (exec (.For target iter body [] pos) env) Q E s := by
  refine wpAny_For (wpAny_mono h (fun xv s₁ h₁ => ?_) fun _ _ e => e) hs
  obtain ⟨ax, lo, vs, ne, m, news, rfl, hh, hm, hc, hd, hall, F, N, rest⟩ := h₁
  have hl : s₁.heap.IsList ax vs.toArray := ⟨lo, (N _ hm).1, hc, ne, hd⟩
  have hlt : ax < s₁.heap.objs.size := Heap.lt_size (N _ hm).1
  refine wpAny_pyIter_list hl ?_
  obtain ⟨P, p0, pm, step, fin⟩ := rest s₁.heap.objs.size fun p hp => Heap.lt_size (N p hp).1
  have W := Walks.list (prog := prog) (w := w) (A := A) hh s₁.heap.objs.size ax (Nat.ne_of_lt hlt) vs.toArray
  have hI₀ := next_is_new F
  have hIL : env.locals ≠ s₁.heap.objs.size := Nat.ne_of_lt F.ns.lt
  have hlen : vs.toArray.size = vs.length := by simp
  refine codeAny_forLoop_any (R := fun r s' => match r with | .ok f => Q f s' | .error e => cameBackBy (model prog w) A env E e s')
    (fun k s' => ∃ h' tk i m' news', s' = { s₁ with heap := h', toks := tk } ∧ i ≤ vs.length ∧ k = vs.length + 1 - i ∧ (h'.IsListIter s₁.heap.objs.size ax i ∧ h'.IsList ax vs.toArray) ∧ Fr h₀ env.locals h' m' ∧ News h₀ env.locals h' news' ∧ (∀ p ∈ news', p.1 ≠ s₁.heap.objs.size) ∧ P i m' news') ?_ (vs.length + 1)
    ⟨_, _, 0, m, news, rfl, Nat.zero_le _, rfl, ⟨⟨_, Heap.get?_push_size _ rfl, rfl, rfl⟩, hl.push _⟩, F.push _, (fun p hp => ⟨Heap.get?_push_of_some _ (N p hp).1, (N p hp).2⟩), (fun p hp => Nat.ne_of_lt (Heap.lt_size (N p hp).1)), p0⟩
  rintro k s' ⟨h', tk, i, m', news', rfl, hi, rfl, hst, F', N', off, p⟩
  by_cases hlt : i < vs.length
  · refine W.item i _ _ _ (by omega) hst fun v h₂ tk₂ hP hst₂ hk₂ => ?_
    have hv : vs[i]? = some v := by simpa using hP
    obtain ⟨it, hit, hic, hid⟩ := hst₂.1
    have F₂ := LCg.fr_but F' hk₂ hIL hI₀
    have N₂ : News h₀ env.locals h₂ ((s₁.heap.objs.size, it) :: news') := fun q hq => by
      rcases List.mem_cons.mp hq with rfl | hq
      · exact ⟨hit, Ne.symm hIL, hI₀⟩
      · exact LCg.news_but N' hk₂ off q hq
    obtain ⟨T, rfl⟩ := hall v (List.mem_of_getElem? hv)
    refine hlet T _ _ _ _ _ _ hst₂.1 ?_
    refine wpAny_passesOwn hE (wpAny_mono (step i m' news' _ hv p it h₂ tk₂ hic F₂ N₂ off) (fun _ s₃ h₃ => wpAny_passesOwn hE (wpAny_mono h₃ (fun f s₄ h₄ => ?_) fun _ _ e => e)) fun _ _ e => e)
    have z : UnrEnd h₀ env.locals { s₁ with heap := h₂, toks := tk₂ } s₁.heap.objs.size it (P (i + 1)) s₄ →
        ∃ m, m < vs.length + 1 - i ∧ ∃ h' tk i m' news', s₄ = { s₁ with heap := h', toks := tk } ∧ i ≤ vs.length ∧ m = vs.length + 1 - i ∧ (h'.IsListIter s₁.heap.objs.size ax i ∧ h'.IsList ax vs.toArray) ∧ Fr h₀ env.locals h' m' ∧ News h₀ env.locals h' news' ∧ (∀ p ∈ news', p.1 ≠ s₁.heap.objs.size) ∧ P i m' news' := by
      rintro ⟨h₅, tk₅, m₅, n₅, rfl, F₅, N₅, o₅, p₅⟩
      refine ⟨vs.length + 1 - (i + 1), by omega, h₅, tk₅, i + 1, m₅, n₅, rfl, hlt, rfl, ⟨⟨it, (N₅ _ List.mem_cons_self).1, hic, hid⟩, ⟨lo, (N₅ _ (List.mem_cons_of_mem _ (pm _ _ _ p₅))).1, hc, ne, hd⟩⟩, F₅, (fun q hq => N₅ q (List.mem_cons_of_mem _ hq)), o₅, p₅⟩
    cases f with
    | ret v => exact h₄
    | brk => exact h₄
    | next => exact z h₄
    | cont => exact z h₄
  · obtain rfl : i = vs.length := Nat.le_antisymm hi (Nat.not_lt.mp hlt)
    refine W.done _ _ _ (by rw [hlen]; exact hst) fun h₂ tk₂ hk₂ => wpAny_execs_nil ?_
    exact fin m' news' p h₂ tk₂ (LCg.fr_but F' hk₂ hIL hI₀) (LCg.news_but N' hk₂ off)
theorem crt_inv {L : Addr} {m : Str → Option Value} {ct elt : Expr} {x : Str} {scope : Scope} {cl : List (Str × Addr)} {S : List (Addr × Obj) → Prop} {Pv : Nat → Value → Prop} {Fin : List Value → List (Addr × Obj) → Prop} (P : Nat → List Value → List (Addr × Obj) → Prop) (K : Nat)
    (step : ∀ j ys news, j < K → P j ys news → ∀ v I oI C oC D m₂ h tk (E' : Value → Shared → Prop), Pv j v → LCg.NsObj oC m₂ → m₂ x = some v → Fr h₀ L h m → News h₀ L h ((I, oI) :: (C, oC) :: (D, LCg.lst ys) :: news) → LCg.Off3 I C D news → ((@Ne Nat I C) ∧ (@Ne Nat I D) ∧ (@Ne Nat C D)) →
      wpAny (model prog w) A (isTrue ct (compEnvC scope cl C env) (eval ct (compEnvC scope cl C env))) (fun ok s' => if ok = true then
        wpAny (model prog w) A (eval elt (compEnvC scope cl C env)) (LCg.CompEnd h₀ L m { s with heap := h, toks := tk } I oI C oC D (LCg.lst ys) S (fun y news' => P (j + 1) (ys ++ [y]) news')) E' s'
        else LCg.CompEnd h₀ L m { s with heap := h, toks := tk } I oI C oC D (LCg.lst ys) S (fun _ news' => P (j + 1) ys news') Value.none s') E' { s with heap := h, toks := tk })
    (fin : ∀ ys news, P K ys news → Fin ys news) :
    ∀ (k i : Nat) (ys : List Value) (news : List (Addr × Obj)), i + k = K → P i ys news → LCt.CompRestT prog w A h₀ L m env ct elt x scope cl s S Pv Fin k i ys news
  | 0, i, ys, news, e, p => by
    have e : i = K := e
    subst e
    exact fin ys news p
  | k + 1, i, ys, news, e, p => fun v I oI C oC D m₂ h tk E' a1 a2 a3 a4 a5 a6 a7 => wpAny_mono (step i ys news (by omega) p v I oI C oC D m₂ h tk E' a1 a2 a3 a4 a5 a6 a7)
      (fun ok s' q => by
        cases ok with
        | true => exact wpAny_mono q (fun _ _ ⟨h', tk', n', e1, e2, e3, e4, e5, e6⟩ => ⟨h', tk', n', e1, e2, e3, e4, e5, crt_inv P K step fin k (i + 1) _ n' (by omega) e6⟩) fun _ _ e => e
        | false =>
          obtain ⟨h', tk', n', e1, e2, e3, e4, e5, e6⟩ := q
          exact ⟨h', tk', n', e1, e2, e3, e4, e5, crt_inv P K step fin k (i + 1) _ n' (by omega) e6⟩) fun _ _ e => e
def SrcT (t : Addr) (its : Array Value) (nw : List (Addr × Obj)) : Prop := ∃ o, (t, o) ∈ nw ∧ o.cls = .type "tuple" ∧ ∃ n, o.data = .seq its n
inductive TupSrc (prog : Program) (w : World) (A : Around) (h₀ : Heap) (L : Addr) (m : Str → Option Value) (env : Env) (elt : Expr) (x : Str) (scope : Scope) (cl : List (Str × Addr)) (Fin : Shared → List Value → List (Addr × Obj) → Prop) (xv : Value) (s₁ : Shared) : Prop
  | mk (ax : Addr) (its : Array Value) (news : List (Addr × Obj)) : (xv = .ref ax) → (A.handled = none) → (Fr h₀ L s₁.heap m) → (News h₀ L s₁.heap news) → (SrcT ax its news) → (its.size ≤ sizeLine) → (∀ g, LCg.CompRest prog w A h₀ L m env elt x scope cl { s₁ with heap := g } (SrcT ax its) (fun i v => its[i]? = some v) (Fin { s₁ with heap := g }) its.size 0 [] news) → TupSrc prog w A h₀ L m env elt x scope cl Fin xv s₁
theorem comp_tup {L : Addr} {m : Str → Option Value} {elt iter : Expr} {x : Str} {px : Pos} {scope : Scope} {cl : List (Str × Addr)} {pos : Pos} {Q : Value → Shared → Prop} (_F₀ : Fr h₀ L s.heap m)
    (hclos : closureFor scope env = pure cl) (hcell : ∀ y ∈ scope.names, y.2 ≠ .cell) (hkind : scope.kind = .function)
    (hnames : ∀ y ∈ scope.names, y.2 = .local → scope.names.lookup y.1 = some .local) (hx : scope.names.lookup x = some .local)
    (h : wpAny (model prog w) A (eval iter env) (TupSrc prog w A h₀ L m env elt x scope cl (fun s₂ => LCg.FinE h₀ L m s₂ Q)) E s)
    (hs : ∀ x, foldedSetIterable iter env x = pure x := by intro _; rfl) :
    wpAny (model prog w) A (eval (.ListComp elt [⟨.Name x px, iter, [], 0⟩] scope pos) env) Q E s := by
  rw [eval_ListComp]
  refine wpAny_comprehension_free (use := none) rfl hs hclos hkind hnames (wpAny_mono h (fun xv s₁ h₁ => ?_) fun _ _ e => e)
  obtain ⟨ax, its, news, rfl, hh, F, N, S, hsz, R⟩ := h₁
  obtain ⟨o, hmo, hco, no, hdo⟩ := S
  have hl : s₁.heap.IsTuple ax its := ⟨o, (N _ hmo).1, hco, no, hdo⟩
  have hlt : ax < s₁.heap.objs.size := Heap.lt_size (N _ hmo).1
  refine wpAny_pyIter_tuple hl ?_
  have up : ∀ b o, s₁.heap.get? b = some o → (s₁.heap.push { cls := .type "tuple_iterator", data := .fields #[.ref ax, .int 0 0] }).get? b = some o := fun b o e => Heap.get?_push_of_some _ e
  refine LCg.block_U (S := SrcT ax its) (Walks.tuple hh s₁.heap.objs.size ax (Nat.ne_of_lt hlt) its) hsz (fun i h st => by obtain ⟨o, e, _⟩ := st.1; exact ⟨o, e⟩)
    (fun i h h' o nw st e e' k N S => ⟨by obtain ⟨o', q, r⟩ := st.1; rw [e] at q; cases q; exact ⟨o, e', r⟩, by obtain ⟨o2, hm2, hc2, n2, hd2⟩ := S; exact ⟨o2, (N _ hm2).1, hc2, n2, hd2⟩⟩)
    hcell hkind hx ⟨⟨_, Heap.get?_push_size _ rfl, rfl, rfl⟩, ⟨o, up _ _ (N _ hmo).1, hco, no, hdo⟩⟩ (fun b hb => ?_)
    (F.keeps up) (N.grown up) (Nat.ne_of_lt F.ns.lt) (next_is_new F) (fun p hp => Nat.ne_of_lt (Heap.lt_size (N p hp).1)) ⟨o, hmo, hco, no, hdo⟩ (R _) ?_
  · show b < (s₁.heap.push _).objs.size
    rw [Heap.size_push]
    rcases List.mem_cons.mp hb with rfl | hb
    · exact Nat.lt_succ_self _
    · rw [List.mem_singleton.mp hb]; exact Nat.lt_succ_of_lt hlt
  · intro D C h tk m' ys news' F' N' o1 hn hC₀ hD₀ hCL hDL hCD offC fin
    refine ⟨m', hn, fun h'' hs'' => fin D h'' tk (F'.change hs'' hCL hC₀) (fun p hp => ?_) o1⟩
    refine ⟨hs''.extBut _ _ ?_ (N' p hp).1, (N' p hp).2⟩
    rcases List.mem_cons.mp hp with rfl | hp
    · exact Ne.symm hCD
    · exact offC p hp
end
end Mine93
-- Ztb
namespace Mine93

theorem kwZtb0 : True := by
  k_with_none
  (k_with "room" => first | exact Nat.le_of_ble_eq_true rfl | exact room2 (by assumption) (Nat.le_of_ble_eq_true rfl) | exact room3 (by assumption) (Nat.le_of_ble_eq_true rfl) | exact room1 (by assumption))
  (k_with "units" => first | exact Nat.le_of_ble_eq_true rfl | exact room2 (by assumption) (Nat.le_of_ble_eq_true rfl) | exact room3 (by assumption) (Nat.le_of_ble_eq_true rfl) | exact room1 (by assumption))
  (k_with "k_mem" => first | ((with_reducible refine mem_appL ?_); ktr_member) | ((with_reducible refine mem_appR ?_); ktr_member) | ((with_reducible refine mem_raw ?_); ktr_member))
  (k_with "kind" => first | exact rfl | assumption)
  trivial
abbrev tblL (a0 b0 a1 b1 a2 b2 a3 b3 a4 b4 a5 b5 a6 b6 a7 b7 a8 b8 : Tok) : List (Value × Value) := [(Value.str (Str.ofString "buf") a0, Value.int 2 b0), (Value.str (Str.ofString "not") a1, Value.int 1 b1), (Value.str (Str.ofString "and") a2, Value.int 8 b2), (Value.str (Str.ofString "or") a3, Value.int 14 b3), (Value.str (Str.ofString "xor") a4, Value.int 6 b4), (Value.str (Str.ofString "nand") a5, Value.int 7 b5), (Value.str (Str.ofString "nor") a6, Value.int 1 b6), (Value.str (Str.ofString "xnor") a7, Value.int 9 b7), (Value.str (Str.ofString "mux") a8, Value.int 228 b8)]
theorem tbl_inv (a0 b0 a1 b1 a2 b2 a3 b3 a4 b4 a5 b5 a6 b6 a7 b7 a8 b8 : Tok) : valueAt (strPairs (tblL a0 b0 a1 b1 a2 b2 a3 b3 a4 b4 a5 b5 a6 b6 a7 b7 a8 b8)) (Str.ofString "not") = some (.int 1 b1) := by kernel_rfl!
theorem tbl_and (a0 b0 a1 b1 a2 b2 a3 b3 a4 b4 a5 b5 a6 b6 a7 b7 a8 b8 : Tok) : valueAt (strPairs (tblL a0 b0 a1 b1 a2 b2 a3 b3 a4 b4 a5 b5 a6 b6 a7 b7 a8 b8)) (Str.ofString "and") = some (.int 8 b2) := by kernel_rfl!
theorem tbl_or (a0 b0 a1 b1 a2 b2 a3 b3 a4 b4 a5 b5 a6 b6 a7 b7 a8 b8 : Tok) : valueAt (strPairs (tblL a0 b0 a1 b1 a2 b2 a3 b3 a4 b4 a5 b5 a6 b6 a7 b7 a8 b8)) (Str.ofString "or") = some (.int 14 b3) := by kernel_rfl!
theorem tbl_xor (a0 b0 a1 b1 a2 b2 a3 b3 a4 b4 a5 b5 a6 b6 a7 b7 a8 b8 : Tok) : valueAt (strPairs (tblL a0 b0 a1 b1 a2 b2 a3 b3 a4 b4 a5 b5 a6 b6 a7 b7 a8 b8)) (Str.ofString "xor") = some (.int 6 b4) := by kernel_rfl!
theorem tbl_mux (a0 b0 a1 b1 a2 b2 a3 b3 a4 b4 a5 b5 a6 b6 a7 b7 a8 b8 : Tok) : valueAt (strPairs (tblL a0 b0 a1 b1 a2 b2 a3 b3 a4 b4 a5 b5 a6 b6 a7 b7 a8 b8)) (Str.ofString "mux") = some (.int 228 b8) := by kernel_rfl!
theorem get_str {prog : Program} {w : World} {A : Around} {E : Value → Shared → Prop} {s : Shared} {h₀ : Heap} {L W : Addr} {news : List (Addr × Obj)} {oW : Obj} {kvs : List (Str × Value)} {x : Str} {t : Tok} {v : Value} {value slice : Expr} {Q : Value → Shared → Prop} (N : News h₀ L s.heap news) (hP : (W, oW) ∈ news) (hd : oW.IsDictOf (PySem.strKind prog w) kvs) (hv : valueAt kvs x = some v)
    (h : ∀ tk, Q v { s with toks := tk })
    (hs : subscripted slice false (.ref W) (.str x t) = operate [.ref W, .str x t] (getItem (.ref W) (.str x t)) := by with_unfolding_all rfl) :
    wpAny (model prog w) A (subscriptTail value slice (.ref W) (.str x t)) Q E s := by
  have hD : s.heap.DictOf (PySem.strKind prog w) W kvs := by
    obtain ⟨es, ep, a, b, c, d, e⟩ := hd
    exact ⟨oW, es, ep, (N _ hP).1, a, b, c, d, e⟩
  have hD := hD.mapOf
  exact tail_any hD.typeIs slot_dict_getitem.lookup (wpAny_getItem_of (knd := PySem.strKind prog w) (k := x) (by simp [PySem.strKind, Value.isStrOf]) hD hv (h _)) hs
def tabK : Kd → Nat
  | .inv => 1 | .and => 8 | .or => 14 | .xor => 6 | .mux => 228
theorem tblG (kd : Kd) (a0 b0 a1 b1 a2 b2 a3 b3 a4 b4 a5 b5 a6 b6 a7 b7 a8 b8 : Tok) : ∃ t, valueAt (strPairs (tblL a0 b0 a1 b1 a2 b2 a3 b3 a4 b4 a5 b5 a6 b6 a7 b7 a8 b8)) kd.name = some (.int (tabK kd : Int) t) := by
  cases kd
  · exact ⟨_, tbl_inv a0 b0 a1 b1 a2 b2 a3 b3 a4 b4 a5 b5 a6 b6 a7 b7 a8 b8⟩
  · exact ⟨_, tbl_and a0 b0 a1 b1 a2 b2 a3 b3 a4 b4 a5 b5 a6 b6 a7 b7 a8 b8⟩
  · exact ⟨_, tbl_or a0 b0 a1 b1 a2 b2 a3 b3 a4 b4 a5 b5 a6 b6 a7 b7 a8 b8⟩
  · exact ⟨_, tbl_xor a0 b0 a1 b1 a2 b2 a3 b3 a4 b4 a5 b5 a6 b6 a7 b7 a8 b8⟩
  · exact ⟨_, tbl_mux a0 b0 a1 b1 a2 b2 a3 b3 a4 b4 a5 b5 a6 b6 a7 b7 a8 b8⟩
theorem get_strG {prog : Program} {w : World} {A : Around} {E : Value → Shared → Prop} {s : Shared} {h₀ : Heap} {L W : Addr} {news : List (Addr × Obj)} {oW : Obj} {kvs : List (Str × Value)} {x : Str} {t : Tok} {z : Int} {value slice : PySem.Expr} {Q : Value → Shared → Prop} (N : News h₀ L s.heap news) (hP : (W, oW) ∈ news) (hd : oW.IsDictOf (PySem.strKind prog w) kvs) (hv : ∃ t, valueAt kvs x = some (.int z t))
    (h : ∀ t tk, Q (.int z t) { s with toks := tk })
    (hs : subscripted slice false (.ref W) (.str x t) = operate [.ref W, .str x t] (getItem (.ref W) (.str x t)) := by with_unfolding_all rfl) :
    wpAny (model prog w) A (subscriptTail value slice (.ref W) (.str x t)) Q E s := by
  obtain ⟨t9, hv⟩ := hv
  exact get_str N hP hd hv (h t9) hs
theorem ite_strne {a b : Str} {X Y : Prop} (h : ¬ a = b) (y : Y) : if (a == b) = true then X else Y := by
  rw [if_neg (by simpa using h)]; exact y
theorem kn_lut {kd : Kd} : ¬ kd.name = Str.ofString "lut" := by cases kd <;> decide
theorem kn_cell {kd : Kd} : ¬ kd.name = Str.ofString "cell" := by cases kd <;> decide
theorem kwZtb1 : True := by
  (k_with "ite" => ((with_reducible refine ite_strne ?kqh ?_); (case kqh => first | exact kn_lut | exact kn_cell)))
  (k_with "subscriptTail" => ((with_reducible show wpAny _ _ (subscriptTail _ _ (Value.ref _) (Value.str _ _)) _ _ _); k_here; k_dflt (refine' get_strG ?kqN ?kqm ?kqd ?kqv ?_; (case kqN => k_asm); (case kqm => k_mem); (case kqd => k_asm); (case kqv => exact tblG _ _ _ _ _ _ _ _ _ _ _ _ _ _ _ _ _ _ _)); intro t9' tk'))
  trivial

section
variable {prog : Program} {w : World} {mg mb : Str → Option Value} {mean : ExcName → Option Value} {loose : List Str} {dp un : Nat} {gd : Option (List Code)} {cn : Str} {cs : Scope} {L a : Addr} {ccd : Value} {cl : List (Str × Addr)} {outer : List Env} {A₀ : Around}
  {base h₀ : Heap} {m : Str → Option Value} {s : Shared} {Q E : Value → Shared → Prop} {A : NA} {news own nt : List (Addr × Obj)} {gs : List (Int × RF)} {R : Nat}

theorem c_tableG {kd : Kd} {tk : Tok}
    (B : Below A₀ base outer h₀) (F : Fr h₀ L s.heap m) (X : (hd93.heap_1 w.params).In h₀) (N : News h₀ L s.heap news) (T : Top hd93.view_1 loose mean mg mb h₀) (hk : cs.kind = .function)
     (hd : dp + 20 < recursionLimit) (hu : un + 160 < cLine)
    (ret : ∀ t h' tk', Fr h₀ L h' m → News h₀ L h' news → Q (.int (tabK kd : Int) t) { s with heap := h', toks := tk' }) :
    wpAny (model prog w) (ktrTop dp un gd cn cs L a ccd cl outer) (call (.ref 277) [.str kd.name tk, .none]) Q E s := by
  refine wpAny_call ?_
  k_dflt (ktr_enter)
  rename Fr _ _ _ (fun y => List.lookup y _) => FN
  replace FN : Fr _ _ _ (fun y9 => List.lookup y9 [(Str.ofString "param", .none), (Str.ofString "kind", .str kd.name tk)]) := FN
  generalize (Shared.toks s + List.length _) = tk0
  k_steps
  rename News _ _ _ _ => NN
  exact ret _ _ _ (by k_asm) fun p hp => NN p (.tail _ hp)
end
end Mine93
-- Zwd
namespace Mine93

theorem kwZwd0 : True := by
  k_with_none
  (k_with "room" => first | exact Nat.le_of_ble_eq_true rfl | exact room2 (by assumption) (Nat.le_of_ble_eq_true rfl) | exact room3 (by assumption) (Nat.le_of_ble_eq_true rfl) | exact room1 (by assumption))
  (k_with "units" => first | exact Nat.le_of_ble_eq_true rfl | exact room2 (by assumption) (Nat.le_of_ble_eq_true rfl) | exact room3 (by assumption) (Nat.le_of_ble_eq_true rfl) | exact room1 (by assumption))
  (k_with "k_mem" => first | ((with_reducible refine mem_appL ?_); ktr_member) | ((with_reducible refine mem_appR ?_); ktr_member) | ((with_reducible refine mem_raw ?_); ktr_member))
  (k_with "kind" => first | exact rfl | assumption)
  trivial
theorem wnat_test (f : RF) : ∀ k r, (wnat f k).testBit r = (decide (r < k) && f r) := by
  intro k r
  by_cases h : r < k
  · have := wnat_bit f k r h
    rw [Nat.testBit_eq_decide_div_mod_eq, this, decide_eq_true h]
    cases f r <;> rfl
  · rw [decide_eq_false h, Bool.false_and]
    exact Nat.testBit_lt_two_pow (Nat.lt_of_lt_of_le (wnat_lt f k) (Nat.pow_le_pow_right (by decide) (by omega)))
theorem bitAnd_n (x y : Nat) : Builtin.bitAnd (x : Int) (y : Int) = ((x &&& y : Nat) : Int) := by
  unfold Builtin.bitAnd
  rw [decide_eq_true (show (0 : Int) ≤ (x : Int) by omega), decide_eq_true (show (0 : Int) ≤ (y : Int) by omega)]
  rfl
theorem bitOr_n (x y : Nat) : Builtin.bitOr (x : Int) (y : Int) = ((x ||| y : Nat) : Int) := by
  unfold Builtin.bitOr
  have e : ∀ z : Nat, (Builtin.bitNot (Builtin.bitNot (z : Int))).toNat = z := fun z => by unfold Builtin.bitNot; omega
  have n : ∀ z : Nat, ¬ (0 : Int) ≤ Builtin.bitNot (z : Int) := fun z => by unfold Builtin.bitNot; omega
  unfold Builtin.bitAnd
  rw [decide_eq_false (n x), decide_eq_false (n y)]
  dsimp only
  rw [e, e]
  unfold Builtin.bitNot; omega
theorem w_and (f g : RF) (k : Nat) : Builtin.bitAnd (wnat f k : Int) (wnat g k : Int) = (wnat (fun i => f i && g i) k : Int) := by
  rw [bitAnd_n]; congr 1
  refine Nat.eq_of_testBit_eq fun r => ?_
  rw [Nat.testBit_and, wnat_test, wnat_test, wnat_test]
  cases decide (r < k) <;> simp
theorem w_or (f g : RF) (k : Nat) : Builtin.bitOr (wnat f k : Int) (wnat g k : Int) = (wnat (fun i => f i || g i) k : Int) := by
  rw [bitOr_n]; congr 1
  refine Nat.eq_of_testBit_eq fun r => ?_
  rw [Nat.testBit_or, wnat_test, wnat_test, wnat_test]
  cases decide (r < k) <;> simp
theorem wnat_sum (f : RF) : ∀ k, wnat f k + wnat (fun i => !f i) k + 1 = 2 ^ k
  | 0 => rfl
  | k + 1 => by
    have := wnat_sum f k
    rw [wnat, wnat, Nat.pow_succ]
    cases f k <;> simp <;> omega
theorem w_not (f : RF) (k : Nat) : ((2 ^ k - 1 : Nat) : Int) - (wnat f k : Int) = (wnat (fun i => !f i) k : Int) := by
  have := wnat_sum f k
  omega
theorem w_zero : ∀ k, wnat fF k = 0
  | 0 => rfl
  | k + 1 => by rw [wnat, w_zero k]; simp
theorem w_full (k : Nat) : ((2 ^ k - 1 : Nat) : Int) = (wnat fT k : Int) := by
  have := wnat_sum fF k
  rw [w_zero] at this
  have e : (fun i => !fF i) = fT := rfl
  rw [e] at this
  omega
abbrev FULL : Int := 18446744073709551615
theorem full_eq : (18446744073709551615 : Int) = (wnat fT 64 : Int) := by rw [← w_full]; decide
theorem w_sub (f : RF) : (wnat fT 64 : Int) - (wnat f 64 : Int) = (wnat (fun i => !f i) 64 : Int) := by rw [← w_full]; exact w_not f 64
theorem or_zero (x : Nat) : Builtin.bitOr 0 (x : Int) = (x : Int) := by
  have := bitOr_n 0 x
  simpa using this
theorem vint_eq {a b : Int} {t : Tok} (h : a = b) : some (Value.int a t) = some (Value.int b t) := by rw [h]

abbrev wvals (ws : List NB) : Array Value := (ws.map fun b => Value.int (wnat b.f 64 : Int) b.t).toArray
def bitW (ws : List NB) (k : Nat) : RF := match ws[k]? with | some b => b.f | none => fF
def mtW (ws : List NB) (row : Nat) : Nat → RF
  | 0 => fT
  | k + 1 => fun i => mtW ws row k i && (if row / 2 ^ k % 2 = 1 then bitW ws k i else !bitW ws k i)
def accW (T : Nat) (ws : List NB) : Nat → RF
  | 0 => fF
  | j + 1 => fun i => accW T ws j i || (decide (T / 2 ^ j % 2 = 1) && mtW ws j ws.length i)
theorem mt1 : ∀ r < 2, ∀ a : Bool, (true && (if r / 2 ^ 0 % 2 = 1 then a else !a)) = decide (r = nm [a]) := by decide
theorem mt2 : ∀ r < 4, ∀ a b : Bool, (true && (if r / 2 ^ 0 % 2 = 1 then a else !a) && (if r / 2 ^ 1 % 2 = 1 then b else !b)) = decide (r = nm [a, b]) := by decide
theorem mt3 : ∀ r < 8, ∀ a b c : Bool, (true && (if r / 2 ^ 0 % 2 = 1 then a else !a) && (if r / 2 ^ 1 % 2 = 1 then b else !b) && (if r / 2 ^ 2 % 2 = 1 then c else !c)) = decide (r = nm [a, b, c]) := by decide
theorem mtW_eq {ws : List NB} {r i : Nat} (h1 : 1 ≤ ws.length) (h3 : ws.length ≤ 3) (hr : r < 2 ^ ws.length) : mtW ws r ws.length i = decide (r = num ws i) := by
  match ws, h1, h3 with
  | [a], _, _ => exact mt1 r hr (a.f i)
  | [a, b], _, _ => exact mt2 r hr (a.f i) (b.f i)
  | [a, b, c], _, _ => exact mt3 r hr (a.f i) (b.f i) (c.f i)
theorem accW_eq {T : Nat} {ws : List NB} {i : Nat} (h1 : 1 ≤ ws.length) (h3 : ws.length ≤ 3) : ∀ j, j ≤ 2 ^ ws.length → accW T ws j i = decide (num ws i < j ∧ T / 2 ^ num ws i % 2 = 1)
  | 0, _ => by simp [accW]
  | j + 1, h => by
    show (accW T ws j i || (decide (T / 2 ^ j % 2 = 1) && mtW ws j ws.length i)) = _
    rw [accW_eq h1 h3 j (by omega), mtW_eq h1 h3 (by omega)]
    by_cases e : j = num ws i
    · subst e
      simp
    · have : (num ws i < j + 1) ↔ num ws i < j := by omega
      simp [this, e]
theorem accW_all {T : Nat} {ws : List NB} (h1 : 1 ≤ ws.length) (h3 : ws.length ≤ 3) : accW T ws (2 ^ ws.length) = fun i => T / 2 ^ num ws i % 2 == 1 := by
  funext i
  rw [accW_eq h1 h3 _ (Nat.le_refl _)]
  have := num_lt ws i
  simp [this]
  rfl
inductive WIn1 (T : Nat) (ws : List NB) (lw : Addr) (tt tf : Tok) (news0 : List (Addr × Obj)) (j : Nat) (m : Str → Option Value) (news : List (Addr × Obj)) : Prop
  | mk (t : _) : (news0 = news) → (m (Str.ofString "table") = some (.int (T : Int) tt)) → (m (Str.ofString "words") = some (.ref lw)) → (m (Str.ofString "full") = some (.int FULL tf)) → (m (Str.ofString "total") = some (.int (wnat (accW T ws j) 64 : Int) t)) → WIn1 T ws lw tt tf news0 j m news
inductive WIn2 (T : Nat) (ws : List NB) (lw : Addr) (tt tf : Tok) (r : Nat) (tr : Tok) (w0 : Int) (t0 : Tok) (news0 : List (Addr × Obj)) (j : Nat) (m : Str → Option Value) (news : List (Addr × Obj)) : Prop
  | mk (t : _) : (news0 = news) → (m (Str.ofString "table") = some (.int (T : Int) tt)) → (m (Str.ofString "words") = some (.ref lw)) → (m (Str.ofString "full") = some (.int FULL tf)) → (m (Str.ofString "row") = some (.int (r : Int) tr)) → (m (Str.ofString "total") = some (.int w0 t0)) → (m (Str.ofString "part") = some (.int (wnat (mtW ws r j) 64 : Int) t)) → WIn2 T ws lw tt tf r tr w0 t0 news0 j m news
theorem rng_p {n : Nat} (h3 : n ≤ 3) : Builtin.Range.small 0 ((2 ^ n : Nat) : Int) 1 = true ∧ Builtin.Range.rangeSize 0 ((2 ^ n : Nat) : Int) 1 = ((2 ^ n : Nat) : Int) := by
  match n, h3 with
  | 0, _ => exact ⟨by decide, by decide⟩
  | 1, _ => exact ⟨by decide, by decide⟩
  | 2, _ => exact ⟨by decide, by decide⟩
  | 3, _ => exact ⟨by decide, by decide⟩
theorem fm_t {x j : Nat} (h : Int.fmod ((x / 2 ^ j : Nat) : Int) 2 = 1) : x / 2 ^ j % 2 = 1 := by
  rw [Int.fmod_eq_emod_of_nonneg _ (by decide)] at h; omega
theorem fm_f {x j : Nat} (h : ¬ Int.fmod ((x / 2 ^ j : Nat) : Int) 2 = 1) : ¬ x / 2 ^ j % 2 = 1 := by
  rw [Int.fmod_eq_emod_of_nonneg _ (by decide)] at h; omega
theorem and_t {ws : List NB} {r k : Nat} {b : NB} (hb : ws[k]? = some b) (h : r / 2 ^ k % 2 = 1) : Builtin.bitAnd (wnat (mtW ws r k) 64 : Int) (wnat b.f 64 : Int) = (wnat (mtW ws r (k + 1)) 64 : Int) := by
  rw [w_and]; congr 2; funext i
  simp only [mtW, bitW, hb, if_pos h]
theorem and_f {ws : List NB} {r k : Nat} {b : NB} (hb : ws[k]? = some b) (h : ¬ r / 2 ^ k % 2 = 1) : Builtin.bitAnd (wnat (mtW ws r k) 64 : Int) (FULL - (wnat b.f 64 : Int)) = (wnat (mtW ws r (k + 1)) 64 : Int) := by
  rw [FULL, full_eq, w_sub, w_and]; congr 2; funext i
  simp only [mtW, bitW, hb, if_neg h]
theorem or_t {T : Nat} {ws : List NB} {j : Nat} (h : T / 2 ^ j % 2 = 1) : Builtin.bitOr (wnat (accW T ws j) 64 : Int) (wnat (mtW ws j ws.length) 64 : Int) = (wnat (accW T ws (j + 1)) 64 : Int) := by
  rw [w_or]; congr 2; funext i
  simp only [accW, decide_eq_true h, Bool.true_and]
theorem or_f {T : Nat} {ws : List NB} {j : Nat} (h : ¬ T / 2 ^ j % 2 = 1) : wnat (accW T ws j) 64 = wnat (accW T ws (j + 1)) 64 := by
  congr 1; funext i
  simp only [accW, decide_eq_false h, Bool.false_and, Bool.or_false]
section
variable {prog : Program} {w : World} {A : Around} {E : Value → Shared → Prop} {s : Shared} {h₀ : Heap} {L D : Addr} {news : List (Addr × Obj)} {ws : List NB} {c n k : Nat} {b : NB} {Q : Value → Shared → Prop} {u : Tok} {value slice : PySem.Expr}
theorem len_w (N : News h₀ L s.heap news) (hm : (D, listOf (wvals ws) c) ∈ news) (hn : ws.length = n) (h8 : n ≤ 8) (h : Q (.int (n : Int) (s.toks + 1)) { s with toks := s.toks + 1 + 1 }) :
    wpAny (model prog w) A (call (.builtin "len") [.ref D]) Q E s :=
  KM.len_K N hm (by simp [wvals, hn]) (by omega) h
theorem item_w (N : News h₀ L s.heap news) (hm : (D, listOf (wvals ws) c) ∈ news) (h9 : k < 9) (hx : ws[k]? = some b) (h : Q (.int (wnat b.f 64 : Int) b.t) s)
    (hs : subscripted slice false (.ref D) (.int (k : Int) u) = operate [.ref D, .int (k : Int) u] (getItem (.ref D) (.int (k : Int) u)) := by with_unfolding_all rfl) :
    wpAny (model prog w) A (subscriptTail value slice (.ref D) (.int (k : Int) u)) Q E s :=
  item_own N hm (by omega) (by omega) (by simp [wvals, hx]) h hs
end
def WdMark : Prop := True
theorem kwZwd1 : True := by
  (k_with "pyIter ref" => ((with_reducible show wpAny _ _ (pyIter (Value.ref _)) (fun it s₂ => LoopAtV _ _ _ _ _ _ _ _ _ it s₂) _ _); refine hold ?_))
  (k_with "UnrEnd" => (refine hold ?_))
  (k_with "eval Name" => ((rename WdMark => mk9); k_here; k_dflt (refine' nameX_L ?kqF ?kqv ?_ ?kqa ?kqb; (case kqa => rfl); (case kqb => rfl); (case kqF => k_asm); (case kqv => walk_at "mlook"); k_whole)))
  (k_with "mlook" => first | (with_reducible assumption) | (refine' look_neg ?kqa ?kqb; (case kqb => decide); (case kqa => walk_at "mlook")) | exact rfl)
  (k_with "call builtin:len cons nil" => (k_here; k_dflt (refine' len_w ?kqN ?kqm ?kqhn ?kqh8 ?_; (case kqN => k_asm); (case kqm => k_mem); (case kqhn => exact rfl); (case kqh8 => omega))))
  (k_with "subscriptTail Name Name ref int" => (k_here; k_dflt (refine' item_w ?kqN ?kqm ?kqh9 ?kqx ?_; (case kqN => k_asm); (case kqm => k_mem); (case kqh9 => assumption); (case kqx => assumption))))
  (k_with "binaryOp Pow int int" => (k_here; (with_reducible refine pow2_w ?kqa ?_); (case kqa => omega)))
  (k_with "binaryOp FloorDiv int int" => (k_here; (with_reducible refine fd_w ?kqa ?_); (case kqa => omega)))
  trivial

section
variable {prog : Program} {w : World} {mg mb : Str → Option Value} {mean : ExcName → Option Value} {loose : List Str} {dp un : Nat} {gd : Option (List Code)} {cn : Str} {cs : Scope} {L a : Addr} {ccd : Value} {cl : List (Str × Addr)} {outer : List Env} {A₀ : Around}
  {base h₀ : Heap} {m : Str → Option Value} {s : Shared} {Q E : Value → Shared → Prop} {A : NA} {news own nt : List (Addr × Obj)} {gs : List (Int × RF)} {R : Nat}

theorem c_wordG {lw : Addr} {nw n tb : Nat} {tt tf : Tok} {ws : List NB}
    (B : Below A₀ base outer h₀) (F : Fr h₀ L s.heap m) (X : (hd93.heap_1 w.params).In h₀) (N : News h₀ L s.heap news) (T : Top hd93.view_1 loose mean mg mb h₀) (hk : cs.kind = .function)
    (hl : (lw, listOf (wvals ws) nw) ∈ news) (hn : ws.length = n) (h1 : 1 ≤ n) (h3 : n ≤ 3) (hd : dp + 20 < recursionLimit) (hu : un + 160 < cLine)
    (ret : ∀ z t h' tk', z = (wnat (fun i => tb / 2 ^ num ws i % 2 == 1) 64 : Int) → Fr h₀ L h' m → News h₀ L h' news → Q (.int z t) { s with heap := h', toks := tk' }) :
    wpAny (model prog w) (ktrTop dp un gd cn cs L a ccd cl outer) (call (.ref 284) [.int (tb : Int) tt, .ref lw, .int FULL tf]) Q E s := by
  subst hn
  refine wpAny_call ?_
  k_dflt (ktr_enter)
  rename Fr _ _ _ (fun y => List.lookup y _) => FN
  replace FN : Fr _ _ _ (fun y9 => List.lookup y9 [(Str.ofString "full", .int FULL tf), (Str.ofString "words", .ref lw), (Str.ofString "table", .int (tb : Int) tt)]) := FN
  generalize (Shared.toks s + List.length _) = tk0
  have mk : WdMark := trivial
  k_steps
  rename News _ _ _ _ => N1
  rename Fr _ _ _ _ => F1
  rename IsRange _ _ _ _ _ _ _ _ => hr1
  have ru := rng_p h3
  unfold Hold
  with_unfolding_all refine iter_rangeUnr (n := 2 ^ ws.length) (by rfl) hr1 ru.1 ru.2 F1 N1 ?_
  intro I lI
  have oI : ∀ p ∈ news, p.1 ≠ I := fun p hp => Nat.ne_of_lt (lI p hp)
  refine' rr_inv (WIn1 tb ws lw tt tf news) (2 ^ ws.length) ?step ?fin (2 ^ ws.length) 0 _ _ (Nat.zero_add _) ?init
  case init => refine' ⟨_, rfl, rfl, rfl, rfl, vint_eq (show (0 : Int) = _ by rw [accW, w_zero]; rfl)⟩
  case step =>
    clear N1 F1 hr1
    rintro j m1 news1 hj ⟨t1, rfl, k1, k2, k3, k4⟩ t2 hh tk F2 N2
    rw [Int.zero_add] at F2
    have hj8 : j < 200 := Nat.lt_of_lt_of_le hj (Nat.le_trans (Nat.pow_le_pow_right (by decide) h3) (by decide))
    k_steps
    · rename News _ _ _ _ => N3
      rename Fr _ _ _ _ => F3
      rename IsRange _ _ _ _ _ _ _ _ => hr2
      rename Int.fmod _ _ = _ => hT
      have hT := fm_t hT
      unfold Hold
      have ru2 := rng_up (n := ws.length) (by omega)
      with_unfolding_all refine iter_rangeUnr (n := ws.length) (by rfl) hr2 ru2.1 ru2.2 F3 N3 ?_
      intro I2 lI2
      have oI2 : ∀ p ∈ (I, _) :: news, p.1 ≠ I2 := fun p hp => Nat.ne_of_lt (lI2 p hp)
      refine' rr_inv (WIn2 tb ws lw tt tf j t2 (wnat (accW tb ws j) 64 : Int) t1 ((I, _) :: news)) ws.length ?step2 ?fin2 ws.length 0 _ _ (Nat.zero_add _) ?init2
      case init2 => refine' ⟨_, rfl, ?a1, ?a2, ?a3, ?a4, ?a5, vint_eq full_eq⟩; (case a1 => walk_at "mlook"); (case a2 => walk_at "mlook"); (case a3 => walk_at "mlook"); (case a4 => walk_at "mlook"); (case a5 => walk_at "mlook")
      case step2 =>
        clear N3 F3 hr2
        rintro k m2 news2 hk ⟨t3, rfl, g1, g2, g3, g4, g5, g6⟩ t4 hh2 tk2 F4 N4
        rw [Int.zero_add] at F4
        obtain ⟨b, hb⟩ := getL rfl hk
        have hk9 : k < 9 := by omega
        k_steps
        all_goals (
          unfold Hold
          rename News _ _ _ _ => N5)
        · rename Int.fmod _ _ = _ => hr
          refine' UnrEnd.intro ?F9 N5 _ (fun _ h => h) oI2 ⟨_, rfl, ?m1, ?m2, ?m3, ?m4, ?m5, ?m6⟩
          case F9 => k_asm
          case m1 => walk_at "mlook"
          case m2 => walk_at "mlook"
          case m3 => walk_at "mlook"
          case m4 => walk_at "mlook"
          case m5 => walk_at "mlook"
          case m6 => exact Eq.trans (by walk_at "mlook") (vint_eq (and_t hb (fm_t hr)))
        · rename ¬ Int.fmod _ _ = _ => hr
          refine' UnrEnd.intro ?F8 N5 _ (fun _ h => h) oI2 ⟨_, rfl, ?n1, ?n2, ?n3, ?n4, ?n5, ?n6⟩
          case F8 => k_asm
          case n1 => walk_at "mlook"
          case n2 => walk_at "mlook"
          case n3 => walk_at "mlook"
          case n4 => walk_at "mlook"
          case n5 => walk_at "mlook"
          case n6 => exact Eq.trans (by walk_at "mlook") (vint_eq (and_f hb (fm_f hr)))
      case fin2 =>
        rintro m2 news2 ⟨t3, rfl, g1, g2, g3, g4, g5, g6⟩ hh2 tk2 F4 N4
        k_steps
        unfold Hold
        rename News _ _ _ _ => N5
        refine' UnrEnd.intro ?F7 N5 _ (fun _ h => h) oI ⟨_, rfl, ?o1, ?o2, ?o3, ?o4⟩
        case F7 => k_asm
        case o1 => walk_at "mlook"
        case o2 => walk_at "mlook"
        case o3 => walk_at "mlook"
        case o4 => exact Eq.trans (by walk_at "mlook") (vint_eq (or_t hT))
    · rename ¬ Int.fmod _ _ = _ => hT
      unfold Hold
      rename News _ _ _ _ => N5
      refine' UnrEnd.intro ?F6 N5 _ (fun _ h => h) oI ⟨_, rfl, ?q1, ?q2, ?q3, ?q4⟩
      case F6 => k_asm
      case q1 => walk_at "mlook"
      case q2 => walk_at "mlook"
      case q3 => walk_at "mlook"
      case q4 => (rw [← or_f (fm_f hT)]; walk_at "mlook")
  case fin =>
    rintro m1 news1 ⟨t1, rfl, k1, k2, k3, k4⟩ hh tk F2 N2
    rw [accW_all h1 h3] at k4
    k_steps
    exact ret _ _ _ _ rfl (by k_asm) (by k_asm)
end
end Mine93
-- Zws
namespace Mine93

theorem kwZws0 : True := by
  k_with_none
  (k_with "room" => first | exact Nat.le_of_ble_eq_true rfl | exact room2 (by assumption) (Nat.le_of_ble_eq_true rfl) | exact room3 (by assumption) (Nat.le_of_ble_eq_true rfl) | exact room1 (by assumption))
  (k_with "units" => first | exact Nat.le_of_ble_eq_true rfl | exact room2 (by assumption) (Nat.le_of_ble_eq_true rfl) | exact room3 (by assumption) (Nat.le_of_ble_eq_true rfl) | exact room1 (by assumption))
  (k_with "splits" => first | exact Split.app | (refine' Split.cons ?kqx; (case kqx => walk_at "splits")) | exact Split.nil)
  (k_with "sub" => ((repeat (first | exact sub_refl | exact sub_appL | exact sub_appR | (refine sub_cons ?kqmem ?_; (case kqmem => k_mem)) | refine sub_tail ?_)); done))
  (k_with "gsub" => ((repeat (first | exact fun _ h => h | (refine gsub_cons ?kqmem ?_; (case kqmem => k_mem)) | refine gsub_tail ?_)); done))
  (k_with "lts" => first | exact lt0 (by assumption) | exact lt1 (by assumption) | exact lt2 (by assumption) | exact lt3 (by assumption) | exact lt4 (by assumption) | exact lt5 (by assumption) | exact lt6 (by assumption) | exact lt7 (by assumption) | exact lt8 (by assumption) | exact lt9 (by assumption) | exact lt10 (by assumption) | exact lt11 (by assumption) | exact lt12 (by assumption) | exact lt13 (by assumption) | exact lt14 (by assumption) | exact lt15 (by assumption) | exact lt16 (by assumption) | exact lt17 (by assumption) | exact lt18 (by assumption) | exact lt19 (by assumption))
  (k_with "notin" => first | assumption | exact Apart.at (by assumption) (by k_mem) | exact OffM.notI (by assumption) (by walk_at "sub") | exact OffM.notC (by assumption) (by walk_at "sub") | exact OffM.notD (by assumption) (by walk_at "sub") | exact Hi.not (by assumption) (by walk_at "sub") | exact OffD.not (by assumption) (by walk_at "sub") | exact not_of_lt (by walk_at "lts") (by walk_at "sub"))
  (k_with "ina" => first | exact InA.here | (refine' InA.next ?kqp; (case kqp => walk_at "ina")) | fail)
  (k_with "k_ne" => ((try dsimp only); first | assumption | exact Ne.symm (by assumption) | (refine' OffD.at ?kqh ?kqm; (case kqh => assumption); (case kqm => walk_at "ina")) | (refine' OffD.at' ?kqh ?kqm; (case kqh => assumption); (case kqm => walk_at "ina")) | exact ne_lt' (by assumption) | exact ne_gt' (by assumption) | fail))
  (k_with "k_all" => first | exact List.forall_mem_nil _ | (refine' List.forall_mem_cons.mpr ⟨?kqa, ?kqb⟩; (case kqa => k_ne); (case kqb => k_all)) | assumption | exact Apart.ne (by assumption) (by k_mem) | (refine all_app ?_ ?_ <;> k_all) | exact Hi.ne (by assumption) (by walk_at "sub") | exact ne_of_lt' (by walk_at "lts") (by walk_at "sub") | exact OffD.ne' (by assumption) (by walk_at "sub"))
  (k_with "subscriptTail Name Name ref int" => (k_here; (with_reducible show wpAny _ _ (subscriptTail _ _ (Value.ref _) (Value.int _ _)) _ _ _); k_dflt (refine' item_own_neg ?kqN ?kqm ?kqa ?kqb ?kqc ?kqx ?_; (case kqN => k_asm); (case kqm => k_mem); (case kqa => decide); (case kqb => decide); (case kqc => decide); (case kqx => rfl))))
  (k_with "subscriptTail Name Name ref int" => (k_here; (with_reducible show wpAny _ _ (subscriptTail _ _ (Value.ref _) (Value.int _ _)) _ _ _); k_dflt (refine' item_own ?kqN ?kqm ?kqa ?kqb ?kqx ?_; (case kqN => k_asm); (case kqm => k_mem); (case kqa => decide); (case kqb => decide); (case kqx => rfl))))
  (k_with "subscriptTail Name BinOp ref int" => (k_here; (with_reducible show wpAny _ _ (subscriptTail _ _ (Value.ref _) (Value.int _ _)) _ _ _); k_dflt (refine' item_own_neg ?kqN ?kqm ?kqa ?kqb ?kqc ?kqx ?_; (case kqN => k_asm); (case kqm => k_mem); (case kqa => decide); (case kqb => decide); (case kqc => decide); (case kqx => rfl))))
  (k_with "subscriptTail Name BinOp ref int" => (k_here; (with_reducible show wpAny _ _ (subscriptTail _ _ (Value.ref _) (Value.int _ _)) _ _ _); k_dflt (refine' item_own ?kqN ?kqm ?kqa ?kqb ?kqx ?_; (case kqN => k_asm); (case kqm => k_mem); (case kqa => decide); (case kqb => decide); (case kqx => rfl))))
  (k_with "subscriptTail Name UnaryOp ref int" => (k_here; (with_reducible show wpAny _ _ (subscriptTail _ _ (Value.ref _) (Value.int _ _)) _ _ _); k_dflt (refine' item_own_neg ?kqN ?kqm ?kqa ?kqb ?kqc ?kqx ?_; (case kqN => k_asm); (case kqm => k_mem); (case kqa => decide); (case kqb => decide); (case kqc => decide); (case kqx => rfl))))
  (k_with "subscriptTail Name UnaryOp ref int" => (k_here; (with_reducible show wpAny _ _ (subscriptTail _ _ (Value.ref _) (Value.int _ _)) _ _ _); k_dflt (refine' item_own ?kqN ?kqm ?kqa ?kqb ?kqx ?_; (case kqN => k_asm); (case kqm => k_mem); (case kqa => decide); (case kqb => decide); (case kqx => rfl))))
  (k_with "subscriptTail Name Constant ref int" => (k_here; (with_reducible show wpAny _ _ (subscriptTail _ _ (Value.ref _) (Value.int _ _)) _ _ _); k_dflt (refine' item_own_neg ?kqN ?kqm ?kqa ?kqb ?kqc ?kqx ?_; (case kqN => k_asm); (case kqm => k_mem); (case kqa => decide); (case kqb => decide); (case kqc => decide); (case kqx => rfl))))
  (k_with "subscriptTail Name Constant ref int" => (k_here; (with_reducible show wpAny _ _ (subscriptTail _ _ (Value.ref _) (Value.int _ _)) _ _ _); k_dflt (refine' item_own ?kqN ?kqm ?kqa ?kqb ?kqx ?_; (case kqN => k_asm); (case kqm => k_mem); (case kqa => decide); (case kqb => decide); (case kqx => rfl))))
  (k_with "subscriptTail" => (k_here; (with_reducible show wpAny _ _ (subscriptTail _ _ (Value.ref _) (Value.int _ _)) _ _ _); k_dflt (refine' item_own_neg ?kqN ?kqm ?kqa ?kqb ?kqc ?kqx ?_; (case kqN => k_asm); (case kqm => k_mem); (case kqa => decide); (case kqb => decide); (case kqc => decide); (case kqx => rfl))))
  (k_with "subscriptTail" => (k_here; (with_reducible show wpAny _ _ (subscriptTail _ _ (Value.ref _) (Value.int _ _)) _ _ _); k_dflt (refine' item_own ?kqN ?kqm ?kqa ?kqb ?kqx ?_; (case kqN => k_asm); (case kqm => k_mem); (case kqa => decide); (case kqb => decide); (case kqx => rfl))))
  (k_with "num" => first | exact (show _ = (0 : Int) by decide) | exact (show _ = (1 : Int) by decide) | exact (show _ = (2 : Int) by decide) | exact (show _ = (3 : Int) by decide) | exact (show _ = (4 : Int) by decide) | exact (show _ = (5 : Int) by decide) | exact (show _ = (6 : Int) by decide) | exact (show _ = (7 : Int) by decide) | exact (show _ = (8 : Int) by decide))
  (k_with "exec For Name Subscript cons nil" => (k_here; (rename Fr _ _ _ _ => lF'); (with_unfolding_all refine' For_invVF lF' ?kqk1 ?kqk2 ?_; (case kqk1 => exact rfl); (case kqk2 => exact rfl); k_whole)))
  (k_with "call builtin:min cons nil" => (k_here; (with_reducible show wpAny _ _ (call (Value.builtin _) [Value.int _ _, Value.int _ _]) _ _ _); k_dflt (refine' min_le_N ?kqab ?kqhh ?kqF ?kqN ?_; (case kqab => decide); (case kqhh => exact rfl); (case kqF => k_asm); (case kqN => k_asm)); intro h' tk' F' N'; (try k_sweep)))
  (k_with "binaryOp Sub int int" => (k_here; k_dflt (refine' sub_int_k ?kqhk ?_; (case kqhk => walk_at "num"))))
  (k_with "RangeRest" => (with_unfolding_all first | (refine' rr_succ ?kqhv (fun t' h' tk' F' N' => ?_); (case kqhv => walk_at "num")) | (refine RangeRest.zero (fun h' tk' F' N' => ?_))))
  (k_with "eval ListComp" => (k_here; k_dflt (refine LCg.ListComp_U (F₀ := by k_asm) (by with_unfolding_all rfl) (by decide) (by rfl) (by decide) (by rfl) ?_); k_dflt lcg_toSrc))
  (k_with "CompSrc" => (k_here; k_dflt (first
  | (refine LCg.CompSrc.ledger (by rfl) (by k_asm) (by k_asm) (by k_mem) (by first | exact Nat.le_of_ble_eq_true rfl | size_fits) ?_; intro g'; lcg_lit)
  | (refine LCg.CompSrc.range (by rfl) (by k_asm) (by k_asm) (by assumption) (by first | decide | rfl) (by first | rfl | decide) (by first | exact Nat.le_of_ble_eq_true rfl | size_fits) ?_; intro g'; lcg_lit))))
  (k_with "CompRest" => (with_unfolding_all first
  | (refine LCg.CompRest.succ ?_; intro v' I' oI' C' oC' D' m' h' tk' E' hv' hC' hx' F' N' off' ne'; (first | lcg_open hv' | (obtain ⟨t9', hv9'⟩ := hv'; subst hv9')); (have o9' := offM_of off'); (try simp only [LCg.Off3, and_true] at off'))
  | refine LCg.CompRest.zero ?_))
  (k_with "CompEnd" => (k_dflt (refine' comp_end ?kqF ?kqN ?kqo ?kqS ?_; (case kqF => k_asm); (case kqN => k_asm); (case kqo => first | exact LCg.Off3.of (by assumption) | (refine' off3_next ?kqSp ?kqm ?kqs ?kqa; (case kqSp => walk_at "splits"); (case kqm => assumption); (case kqs => walk_at "sub"); (case kqa => assumption))); (case kqS => lcg_src))))
  (k_with "pull" => first | exact Pull.here | (refine' Pull.next ?kqp; (case kqp => walk_at "pull")))
  (k_with "UnrEnd" => (k_dflt (refine' unr_end ?kqF ?kqN ?kqp ?kqo ?_; (case kqF => k_asm); (case kqN => k_asm); (case kqp => walk_at "pull"); (case kqo => k_all))))
  (k_with "UnrEnd" => (k_dflt (refine' unr_endL ?kqF ?kqN ?kqp ?kqo ?kqm ?_; (case kqF => k_asm); (case kqN => k_asm); (case kqp => walk_at "pull"); (case kqo => k_all); (case kqm => k_mem))))
  (k_with "pyIter ref" => ((with_reducible show wpAny _ _ (pyIter (Value.ref _)) (fun it s₂ => LoopAtV _ _ _ _ _ _ _ _ _ it s₂) _ _); k_here; k_dflt (refine' iter_listL ?kqhh ?kqF ?kqN ?kqm ?_; (case kqhh => exact rfl); (case kqF => k_asm); (case kqN => k_asm); (case kqm => k_mem)); intro i' l1; (try k_lt l1)))
  (k_with "FinE" => ((unfold LCg.FinE); intro D' h' tk' F' N' o1'; (have o8' := offD_of o1'); (try simp only [LCg.Off1, and_true] at o1'); (try simp only [List.nil_append, List.cons_append] at N'); (try dsimp only)))
  (k_with "FinA" => ((unfold LCg.FinA); intro D' h' tk' F' N' o1'; (have o8' := offD_of o1'); (try simp only [LCg.Off1, and_true] at o1'); (try simp only [List.nil_append, List.cons_append] at N'); (try dsimp only)))
  (k_with "k_mem" => first | ((with_reducible refine mem_appL ?_); ktr_member) | ((with_reducible refine mem_appR ?_); ktr_member) | ((with_reducible refine mem_raw ?_); ktr_member))
  (k_with "execs cons Assign cons" => ((with_reducible refine wpAny_execs_cons ?_); try dsimp only))
  (k_with "exec While Compare cons nil" => (k_here; k_dflt (refine whl_start 100 ?_)))
  (k_with "pyIter ref" => ((with_reducible show wpAny _ _ (pyIter (Value.ref _)) (fun it s₂ => LoopAtV _ _ _ _ _ _ _ _ _ it s₂) _ _); k_here; l_hasStore; first | k_rangeUnr | krs_unr))
  (k_with "enterC" => (refine' code_defC ?kqk1 ?kqk2 ?kqk3 ?kqk4 ?kqk5 ?kqkA ?kqkF ?kqkK ?kqk6 ?kqk7 ?kqk8 ?kqk9 ?kqkB ?kqkD ?_ ?kqc2 ?kqc3 ?kqc4; (case kqkA => exact rfl); (case kqkF => exact rfl); (case kqkK => assumption); (case kqk1 => k_asm); (case kqk2 => k_asm); (case kqk3 => k_asm); (case kqk4 => k_asm); (case kqk5 => k_asm); (case kqk6 => k_is); (case kqk7 => k_is); (case kqk8 => ktr_room); (case kqk9 => exact BindsTo.of_eq rfl); (case kqkB => exact rfl); (case kqkD => decide +kernel); (case kqc2 => exact rfl); (case kqc3 => exact rfl); (case kqc4 => exact rfl); k_whole; intro g' L' h' tk' cells' FG' F' N' Y' B' X' T' l1; (have l9 := hi_of l1); (have l8 := hi_succ l9); (have l7 := hi_succ2 l9); (have l6 := hi_succ3 l9); (have l5 := hi_succ4 l9); (try k_lt l1); k_cells Y'; (try simp only [List.cons_append, List.nil_append] at N'); (try dsimp only); (try k_fold)))
  (k_with "split" => first | exact Split.app | (refine' Split.cons ?kqx; (case kqx => walk_at "split")) | exact Split.nil)
  (k_with "apart" => first | assumption | exact Apart.nil | (refine' Apart.cons ?kqa ?kqb; (case kqa => walk_at "notin"); (case kqb => walk_at "apart")) | exact Apart.sub (by assumption) (by walk_at "sub"))
  (k_with "kind" => first | exact rfl | assumption)
  trivial
theorem up2 {h₀ h : Heap} {L : Addr} {a b : Addr × Obj} {own nt : List (Addr × Obj)} (_N : News h₀ L h (a :: b :: (own ++ nt))) : ∀ p ∈ own, p ∈ a :: b :: (own ++ nt) := fun p hp => .tail _ (.tail _ (List.mem_append_left _ hp))

structure NE4 (Wd D c2 c1 : Addr) (r : List (Addr × Obj)) : Prop where
  a1 : Wd ≠ D
  a2 : Wd ≠ c2
  a3 : Wd ≠ c1
  a4 : D ≠ c2
  a5 : D ≠ c1
  a6 : c2 ≠ c1
  b1 : ∀ p ∈ r, p.1 ≠ Wd
  b2 : ∀ p ∈ r, p.1 ≠ c2
theorem ne4 {Wd D c2 c1 : Nat} {r : List (Addr × Obj)} (h2 : @LT.lt Nat _ c2 D ∧ @LT.lt Nat _ c1 D ∧ AllLt D r) (h1 : @LT.lt Nat _ D Wd ∧ @LT.lt Nat _ c2 Wd ∧ @LT.lt Nat _ c1 Wd ∧ AllLt Wd r) (h3 : Hi c2 r) (h4 : c2 = c1 + 1) : NE4 Wd D c2 c1 r := by
  obtain ⟨x1, x2, x3⟩ := h2
  obtain ⟨y1, y2, y3, y4⟩ := h1
  have y4 := ktn_ltOf y4
  subst h4
  exact ⟨Nat.ne_of_gt y1, Nat.ne_of_gt y2, Nat.ne_of_gt y3, Nat.ne_of_gt x1, Nat.ne_of_gt x2, Nat.succ_ne_self _, fun p hp => Nat.ne_of_lt (y4 p hp), fun p hp => Nat.ne_of_lt (h3 p hp)⟩
inductive TInv (prog : Program) (w : World) (A : NA) (Wd D c2 c1 : Addr) (kO oC : Obj) (rest : List (Addr × Obj)) (j : Nat) (m : Str → Option Value) (news : List (Addr × Obj)) : Prop
  | mk (oW oT : Obj) (kvs : List (Int × Value)) (cv : Option Value) (tf : Tok) : (news = (Wd, oW) :: (D, kO) :: (c2, oT) :: (c1, oC) :: rest) → (oW.IsDictOf (intKind prog w) kvs) → (kvs.length ≤ 2 + j) → (oT.data = Data.cell cv) → (m (Str.ofString "keys") = some (.ref D)) → (m (Str.ofString "full") = some (.int FULL tf)) → (m (Str.ofString "net") = some (.ref A.N)) → ((∃ t, valueAt kvs 0 = some (.int (wnat fF 64 : Int) t))) → ((∃ t, valueAt kvs 1 = some (.int (wnat fT 64 : Int) t))) → ((∀ i, i < j → ∃ t, valueAt kvs ((2 + i : Nat) : Int) = some (.int (wnat (inp i) 64 : Int) t))) → TInv prog w A Wd D c2 c1 kO oC rest j m news
def RInv (j : Nat) (news0 : List (Addr × Obj)) (r : Nat) (ys : List Value) (news : List (Addr × Obj)) : Prop :=
  ∃ zs : List Int, IntsAre ys zs ∧ zs.sum = (wnat (inp j) r : Int) ∧ news = news0
theorem keys_at {a0 a1 a2 b0 b1 b2 : Tok} {j : Nat} (h : j < 6) : ∃ t, [Value.int 2 a0, Value.int 3 a1, Value.int 4 a2, Value.int 5 b0, Value.int 6 b1, Value.int 7 b2][j]? = some (.int ((2 + j : Nat) : Int) t) := by
  match j, h with
  | 0, _ => exact ⟨_, rfl⟩
  | 1, _ => exact ⟨_, rfl⟩
  | 2, _ => exact ⟨_, rfl⟩
  | 3, _ => exact ⟨_, rfl⟩
  | 4, _ => exact ⟨_, rfl⟩
  | 5, _ => exact ⟨_, rfl⟩
theorem item_at {prog : Program} {w : World} {A : Around} {E : Value → Shared → Prop} {s : Shared} {h₀ : Heap} {L l : Addr} {news : List (Addr × Obj)} {Q : Value → Shared → Prop} {value slice : Expr} {u : Tok} {v : Value} {n j : Nat} {vs : List Value} (N : News h₀ L s.heap news) (hm : (l, listOf vs.toArray n) ∈ news) (h9 : j < 9) (hx : vs[j]? = some v) (h : Q v s)
    (hs : subscripted slice false (.ref l) (.int (j : Int) u) = operate [.ref l, .int (j : Int) u] (getItem (.ref l) (.int (j : Int) u)) := by with_unfolding_all rfl) :
    wpAny (model prog w) A (subscriptTail value slice (.ref l) (.int (j : Int) u)) Q E s := item_own N hm (by omega) (by omega) (by simpa using hx) h hs
theorem full_lit : (2 : Int) ^ Int.toNat (2 ^ Int.toNat 6) - 1 = FULL := by decide

theorem rows_t {r j : Nat} (h : Int.fmod ((r / 2 ^ j : Nat) : Int) 2 = 1) : inp j r = true := by
  rw [Int.fmod_eq_emod_of_nonneg _ (by decide)] at h
  show (r / 2 ^ j % 2 == 1) = true
  have : r / 2 ^ j % 2 = 1 := by omega
  rw [this]; rfl
theorem rows_f {r j : Nat} (h : ¬ Int.fmod ((r / 2 ^ j : Nat) : Int) 2 = 1) : inp j r = false := by
  rw [Int.fmod_eq_emod_of_nonneg _ (by decide)] at h
  show (r / 2 ^ j % 2 == 1) = false
  have : r / 2 ^ j % 2 = 0 := by omega
  rw [this]; rfl
section
variable {h₀ h' : Heap} {L I C D : Addr} {m : Str → Option Value} {s : Shared} {oI oC : Obj} {tk j r : Nat} {news : List (Addr × Obj)} {ys : List Value} {zs : List Int} {t : Tok}
theorem r_endT (off : LCg.Off3 I C D news) (N : News h₀ L h' ((I, oI) :: (C, oC) :: (D, LCg.lst ys) :: news)) (F : Fr h₀ L h' m) (hi : IntsAre ys zs) (hz : zs.sum = (wnat (inp j) r : Int)) (hb : inp j r = true) :
    LCg.CompEnd h₀ L m s I oI C oC D (LCg.lst ys) (fun _ => True) (fun y n => RInv j news (r + 1) (ys ++ [y]) n) (.int ((2 ^ r : Nat) : Int) t) { s with heap := h', toks := tk } := by
  refine LCg.CompEnd.intro F N _ (fun _ h => h) off trivial ⟨zs ++ [_], IntsAre.append hi (.cons _ _ .nil), ?_, rfl⟩
  rw [List.sum_append, hz, wnat, hb]
  simp
theorem r_endF (off : LCg.Off3 I C D news) (N : News h₀ L h' ((I, oI) :: (C, oC) :: (D, LCg.lst ys) :: news)) (F : Fr h₀ L h' m) (hi : IntsAre ys zs) (hz : zs.sum = (wnat (inp j) r : Int)) (hb : inp j r = false) :
    LCg.CompEnd h₀ L m s I oI C oC D (LCg.lst ys) (fun _ => True) (fun _ n => RInv j news (r + 1) ys n) Value.none { s with heap := h', toks := tk } := by
  refine LCg.CompEnd.intro F N _ (fun _ h => h) off trivial ⟨zs, hi, ?_, rfl⟩
  rw [hz, wnat, hb]
  simp
end

theorem news_tail {h₀ h : Heap} {L : Addr} {d : Addr × Obj} {r : List (Addr × Obj)} (N : News h₀ L h (d :: r)) : News h₀ L h r := fun p hp => N p (.tail _ hp)
theorem st_old {kvs : List (Int × Value)} {k : Int} {j : Nat} {v : Value} {f : RF} (h : ∃ t, valueAt kvs k = some (.int (wnat f 64 : Int) t)) (e : k ≠ ((2 + j : Nat) : Int)) : ∃ t, valueAt (stored kvs ((2 + j : Nat) : Int) v) k = some (.int (wnat f 64 : Int) t) := by
  obtain ⟨t, h⟩ := h
  exact ⟨t, by rw [valueAt_stored_ne e]; exact h⟩
theorem st_all {kvs : List (Int × Value)} {j : Nat} {z : Int} {t : Tok} (h : ∀ i, i < j → ∃ t, valueAt kvs ((2 + i : Nat) : Int) = some (.int (wnat (inp i) 64 : Int) t)) (hz : z = (wnat (inp j) 64 : Int)) :
    ∀ i, i < j + 1 → ∃ t', valueAt (stored kvs ((2 + j : Nat) : Int) (.int z t)) ((2 + i : Nat) : Int) = some (.int (wnat (inp i) 64 : Int) t') := by
  intro i hi
  by_cases e : i = j
  · subst e; exact ⟨t, by rw [valueAt_stored_self, hz]⟩
  · exact st_old (h i (by omega)) (by omega)

inductive LInv (prog : Program) (w : World) (V : Int → RF) (D Wd : Addr) (rest : List (Addr × Obj)) (j : Nat) (m : Str → Option Value) (news : List (Addr × Obj)) : Prop
  | mk (oW : Obj) (kvs : List (Int × Value)) (tf : Tok) : (news = (Wd, oW) :: rest) → (oW.IsDictOf (intKind prog w) kvs) → (kvs.length ≤ 8 + j) → (m (Str.ofString "full") = some (.int FULL tf)) → (m (Str.ofString "keys") = some (.ref D)) → ((∀ n : Int, 0 ≤ n → n < ((8 + j : Nat) : Int) → ∃ t, valueAt kvs n = some (.int (wnat (V n) 64 : Int) t))) → LInv prog w V D Wd rest j m news
theorem linv0 {kvs : List (Int × Value)} {V : Int → RF} (V0 : V 0 = fF) (V1 : V 1 = fT) (Vi : ∀ i : Nat, i < 6 → V ((2 + i : Nat) : Int) = inp i) (v0 : ∃ t, valueAt kvs 0 = some (.int (wnat fF 64 : Int) t)) (v1 : ∃ t, valueAt kvs 1 = some (.int (wnat fT 64 : Int) t)) (vi : ∀ i, i < 6 → ∃ t, valueAt kvs ((2 + i : Nat) : Int) = some (.int (wnat (inp i) 64 : Int) t)) :
    ∀ n : Int, 0 ≤ n → n < ((8 + 0 : Nat) : Int) → ∃ t, valueAt kvs n = some (.int (wnat (V n) 64 : Int) t) := by
  intro n h0 h8
  obtain ⟨k, rfl⟩ : ∃ k : Nat, n = (k : Int) := ⟨n.toNat, by omega⟩
  match k with
  | 0 => rw [show ((0 : Nat) : Int) = 0 from rfl, V0]; exact v0
  | 1 => rw [show ((1 : Nat) : Int) = 1 from rfl, V1]; exact v1
  | k + 2 =>
    have e : ((k + 2 : Nat) : Int) = ((2 + k : Nat) : Int) := by omega
    rw [e, Vi k (by omega)]; exact vi k (by omega)

theorem news_pair {h₀ h : Heap} {L : Addr} {a b c d e : Addr × Obj} {r : List (Addr × Obj)} (N : News h₀ L h (a :: b :: c :: d :: e :: r)) : News h₀ L h (a :: b :: r) := fun p hp => by
  rcases List.mem_cons.mp hp with rfl | hp
  · exact N _ (.head _)
  rcases List.mem_cons.mp hp with rfl | hp
  · exact N _ (.tail _ (.head _))
  · exact N _ (.tail _ (.tail _ (.tail _ (.tail _ (.tail _ hp)))))
def CellMark : Prop := True
theorem linv_step {kvs : List (Int × Value)} {V : Int → RF} {j : Nat} {z : Int} {t : Tok} (h : ∀ n : Int, 0 ≤ n → n < ((8 + j : Nat) : Int) → ∃ t, valueAt kvs n = some (.int (wnat (V n) 64 : Int) t)) (hz : z = (wnat (V ((8 + j : Nat) : Int)) 64 : Int)) :
    ∀ n : Int, 0 ≤ n → n < ((8 + (j + 1) : Nat) : Int) → ∃ t', valueAt (stored kvs ((8 + j : Nat) : Int) (.int z t)) n = some (.int (wnat (V n) 64 : Int) t') := by
  intro n h0 h1
  by_cases e : n = ((8 + j : Nat) : Int)
  · subst e; exact ⟨t, by rw [valueAt_stored_self, hz]⟩
  · obtain ⟨t', h⟩ := h n h0 (by omega)
    exact ⟨t', by rw [valueAt_stored_ne e]; exact h⟩

inductive WComp (V : Int → RF) (ins : List (Int × Tok)) (news0 : List (Addr × Obj)) (k : Nat) (ys : List Value) (news : List (Addr × Obj)) : Prop
  | mk (bs : List NB) : (ys = bs.map (fun b => Value.int (wnat b.f 64 : Int) b.t)) → (bs.length = k) → (bs.map NB.f = (ins.take k).map (fun p => V p.1)) → (news = news0) → WComp V ins news0 k ys news
theorem sem_tab {kd : Kd} {bs : List NB} (h : bs.length = kd.arity) : (fun i => tabK kd / 2 ^ num bs i % 2 == 1) = kd.sem (bs.map NB.f) := by
  cases kd
  · match bs, h with
    | [a], _ => funext i; show (1 / 2 ^ nm [a.f i] % 2 == 1) = (!a.f i); cases a.f i <;> rfl
  · match bs, h with
    | [a, b], _ => funext i; show (8 / 2 ^ nm [a.f i, b.f i] % 2 == 1) = (a.f i && b.f i); cases a.f i <;> cases b.f i <;> rfl
  · match bs, h with
    | [a, b], _ => funext i; show (14 / 2 ^ nm [a.f i, b.f i] % 2 == 1) = (a.f i || b.f i); cases a.f i <;> cases b.f i <;> rfl
  · match bs, h with
    | [a, b], _ => funext i; show (6 / 2 ^ nm [a.f i, b.f i] % 2 == 1) = (a.f i != b.f i); cases a.f i <;> cases b.f i <;> rfl
  · match bs, h with
    | [a, b, c], _ => funext i; show (228 / 2 ^ nm [a.f i, b.f i, c.f i] % 2 == 1) = (if a.f i = true then c.f i else b.f i); cases a.f i <;> cases b.f i <;> cases c.f i <;> rfl
theorem ar_bd (kd : Kd) : 1 ≤ kd.arity ∧ kd.arity ≤ 3 := by cases kd <;> decide
theorem wcomp_step {V : Int → RF} {ins : List (Int × Tok)} {k : Nat} {bs : List NB} {p : Int × Tok} {t : Tok} (h : bs.map NB.f = (ins.take k).map (fun p => V p.1)) (hp : ins[k]? = some p) : (bs ++ [(⟨0, t, V p.1⟩ : NB)]).map NB.f = (ins.take (k + 1)).map (fun p => V p.1) := by
  rw [List.take_add_one, hp]; simp [h]
theorem kwZws1 : True := by
  (k_with "exec Assign cons ListComp" => (k_here; k_dflt (refine assign_two (F₀ := by k_asm) (by rfl) (by with_unfolding_all rfl) (by rfl) (by decide) (by rfl) (by decide) (by rfl) (by rfl) (by rfl) (by decide) (by decide) (by rfl) (by rfl) ?_)))
  (k_with "pyIter ref" => ((with_reducible show wpAny _ _ (pyIter (Value.ref _)) (fun it s₂ => LoopAtV _ _ _ _ _ _ _ _ _ it s₂) _ _); refine hold ?_))
  (k_with "UnrEnd" => (refine hold ?_))
  (k_with "exec For Name Call cons nil" => (k_here; k_dflt (refine' for_cell ?kqF ?_; (case kqF => k_asm))))
  (k_with "CompSrcT" => (refine hold ?_))
  (k_with "eval ListComp" => (k_here; k_dflt (refine LCt.ListComp_T (F₀ := by k_asm) (by with_unfolding_all rfl) (by decide) (by rfl) (by decide) (by rfl) ?_)))
  (k_with "setItem ref int int" => ((with_reducible show wpAny _ _ (setItem (Value.ref _) (Value.int _ _) (Value.int _ _)) _ _ _); k_here; k_dflt (refine' set_opp ?kqF ?kqN ?kqU ?kqd ?kqz ?_; (case kqF => k_asm); (case kqN => k_asm); (case kqU => k_updF); (case kqd => k_asm); (case kqz => omega)); intro h' o' tk' F' N' d'; (try dsimp only at N')))
  (k_with "subscriptTail Name Name ref int" => ((with_reducible show wpAny _ _ (subscriptTail _ _ (Value.ref _) (Value.int _ _)) _ _ _); k_here; k_dflt (refine' item_at ?kqN ?kqm ?kqh9 ?kqx ?_; (case kqN => k_asm); (case kqm => k_mem); (case kqh9 => omega); (case kqx => assumption))))
  (k_with "binaryOp Pow int int" => (k_here; (with_reducible refine pow2_w ?kqa ?_); (case kqa => omega)))
  (k_with "binaryOp FloorDiv int int" => (k_here; (with_reducible refine fd_w ?kqa ?_); (case kqa => omega)))
  (k_with "call builtin:sum cons nil" => ((with_reducible show wpAny _ _ (call (Value.builtin _) [Value.ref _]) _ _ _); k_here; k_dflt (refine' LCg.sum_ints ?kqF ?kqN ?kqhh ?kql ?kqi ?_; (case kqF => k_asm); (case kqN => k_asm); (case kqhh => exact rfl); (case kql => exact News.isList (by k_asm) (by k_mem)); (case kqi => assumption)); intro h' tk' t' F' N'))
  (k_with "mlook" => first | (with_reducible assumption) | (refine' look_neg ?kqa ?kqb; (case kqb => decide); (case kqa => walk_at "mlook")) | exact rfl)
  (k_with "last eval Name" => (k_here; k_dflt (first
  | (refine' nameX_L ?kqF ?kqv ?_ ?kqa ?kqb; (case kqa => rfl); (case kqb => rfl); (case kqF => k_asm); (case kqv => walk_at "mlook"); k_whole)
  | (refine' ld ?kqk1 ?kqk2 ?_; (case kqk1 => k_asm); (case kqk2 => walk_at "mlook"); k_whole))))
  (k_with "CompSrc" => (refine hold ?_))
  (k_with "CompEnd" => (refine hold ?_))
  (k_with "exec For Tuple Attribute cons nil" => (k_here; k_dflt (refine' for_list ?kqF ?_ ?kql; (case kqF => k_asm); (case kql => exact fun T s I l i Q E h q => wpAny_letOwnedTupleGo_listiter h q))))
  (k_with "call ref" => ((with_reducible show wpAny _ _ (call (Value.ref 277) _) _ _ _); k_here; k_dflt (refine' c_tableG ?kqB ?kqF ?kqX ?kqN ?kqT ?kqhk ?kqhd ?kqhu ?_; (case kqB => k_asm); (case kqF => k_asm); (case kqX => k_asm); (case kqN => k_asm); (case kqT => k_asm); (case kqhk => walk_at "kind"); (case kqhd => ktr_room); (case kqhu => ktr_units)); intro t' h' tk' F' N'; (try k_sweep)))
  (k_with "call ref" => ((with_reducible show wpAny _ _ (call (Value.ref 284) _) _ _ _); k_here; k_dflt (refine' c_wordG ?kqB ?kqF ?kqX ?kqN ?kqT ?kqhk ?kqhl ?kqhn ?kqh1 ?kqh3 ?kqhd ?kqhu ?_; (case kqB => k_asm); (case kqF => k_asm); (case kqX => k_asm); (case kqN => k_asm); (case kqT => k_asm); (case kqhk => walk_at "kind"); (case kqhl => k_mem); (case kqhn => assumption); (case kqh1 => assumption); (case kqh3 => assumption); (case kqhd => ktr_room); (case kqhu => ktr_units)); intro z' t' h' tk' ez' F' N'; (try k_sweep)))
  (k_with "eval ListComp" => ((rename CellMark => mk0); k_here; k_dflt (refine comp_tup (by k_asm) (by with_unfolding_all rfl) (by decide) (by rfl) (by decide) (by rfl) ?_)))
  (k_with "subscriptTail Name Name ref int" => ((with_reducible show wpAny _ _ (subscriptTail _ _ (Value.ref _) (Value.int _ _)) _ _ _); k_here; k_dflt (refine' get_w ?kqN ?kqm ?kqd ?kqv ?_; (case kqN => k_asm); (case kqm => k_mem); (case kqd => k_asm); (case kqv => assumption)); intro tk'))
  trivial

section
variable {prog : Program} {w : World} {mg mb : Str → Option Value} {mean : ExcName → Option Value} {loose : List Str} {dp un : Nat} {gd : Option (List Code)} {cn : Str} {cs : Scope} {L a : Addr} {ccd : Value} {cl : List (Str × Addr)} {outer : List Env} {A₀ : Around}
  {base h₀ : Heap} {m : Str → Option Value} {s : Shared} {Q E : Value → Shared → Prop} {A : NA} {news own nt : List (Addr × Obj)} {gs : List (Int × RF)} {R : Nat}

theorem c_words {tu tv la lb : Addr} {ei ea eb : Nat} {xu xv : Str} {su sv a0 a1 a2 b0 b1 b2 : Tok}
    (B : Below A₀ base outer h₀) (F : Fr h₀ L s.heap m) (X : (hd93.heap_1 w.params).In h₀) (N : News h₀ L s.heap news) (T : Top hd93.view_1 loose mean mg mb h₀) (hk : cs.kind = .function)
    (Sp : Split news own nt) (Ap : Apart own nt) (NI : Net prog w A nt gs R) (hI : (A.I, listOf [Value.ref tu, Value.ref tv].toArray ei) ∈ own) (hu1 : (tu, tupOf [.str xu su, .ref la]) ∈ own) (hv1 : (tv, tupOf [.str xv sv, .ref lb]) ∈ own)
    (hla : (la, listOf [Value.int 2 a0, Value.int 3 a1, Value.int 4 a2].toArray ea) ∈ own) (hlb : (lb, listOf [Value.int 5 b0, Value.int 6 b1, Value.int 7 b2].toArray eb) ∈ own) (hd : dp + 60 < recursionLimit) (hu : un + 640 < cLine)
    (ret : ∀ W T oW kvs t1 h' tk', Fr h₀ L h' m → News h₀ L h' ((T, tupOf [.ref W, .int 64 t1]) :: (W, oW) :: (own ++ nt)) → oW.IsDictOf (intKind prog w) kvs → (∀ p ∈ gs, ∃ t, valueAt kvs p.1 = some (.int (wnat p.2 64 : Int) t)) → Q (.ref T) { s with heap := h', toks := tk' }) :
    wpAny (model prog w) (ktrTop dp un gd cn cs L a ccd cl outer) (call (.ref 289) [.ref A.N]) Q E s := by
  obtain rfl := Sp.eq
  clear Sp
  obtain ⟨cc, tc, oM, oP, ces, ec, tl, V, made, ops, hnt, K, gg, bb⟩ := NI
  have mN : (A.N, instObj 259 A.dN) ∈ nt := by rw [hnt]; exact .head _
  have mdN : (A.dN, netD w.params A (cc : Int) tc) ∈ nt := by rw [hnt]; exact .tail _ (.head _)
  have mC : (A.C, cellsObj ces ec) ∈ nt := by rw [hnt]; exact .tail _ (.tail _ (.tail _ (.tail _ (.head _))))
  have mT : ∀ p ∈ tl, p ∈ nt := fun p hp => by rw [hnt]; exact .tail _ (.tail _ (.tail _ (.tail _ (.tail _ (.tail _ (.tail _ hp))))))
  refine wpAny_call ?_
  k_dflt (walk_at "enterC")
  k_steps
  rename News _ _ _ _ => N1
  rename Fr _ _ _ _ => F1
  have up := up2 N1
  refine ⟨_, [(tu, .str xu su, la, [Value.int 2 a0, Value.int 3 a1, Value.int 4 a2].toArray), (tv, .str xv sv, lb, [Value.int 5 b0, Value.int 6 b1, Value.int 7 b2].toArray)], _, rfl, by rfl, F1, N1, News.isList N1 (up _ hI), ?_, by rw [sizeLine_eq]; exact Nat.le_of_ble_eq_true rfl, ?_⟩
  · intro r hr
    rcases List.mem_cons.mp hr with rfl | hr
    · exact ⟨⟨_, (N1 _ (up _ hu1)).1, rfl, _, rfl⟩, News.isList N1 (up _ hla)⟩
    · rw [List.mem_singleton.mp hr]
      exact ⟨⟨_, (N1 _ (up _ hv1)).1, rfl, _, rfl⟩, News.isList N1 (up _ hlb)⟩
  intro D h1 tk1 F2 N2 l2
  replace N2 : News _ _ h1 ((D, listOf [Value.int 2 a0, Value.int 3 a1, Value.int 4 a2, Value.int 5 b0, Value.int 6 b1, Value.int 7 b2].toArray 6) :: _) := N2
  clear N1 F1
  k_steps
  rename ∀ p ∈ _, Prod.fst p < _ => lW
  have lW2 := lW
  k_lt lW2
  k_steps
  rename IsRange _ _ _ _ _ _ _ _ => hr
  rename News _ _ _ _ => N3
  rename Fr _ _ _ _ => F3
  refine ⟨_, 0, 6, _, _, _, 6, _, _, rfl, by rfl, hr, by decide, by decide, F3, N3, ?_⟩
  intro I lI
  have ne := ne4 lW2 (by assumption) (by assumption) rfl
  obtain ⟨na1, na2, na3, na4, na5, na6, nb1, nb2⟩ := ne
  refine' ⟨TInv prog w A ?Wd D ?c2 ?c1 ?kO ?oC (own ++ nt), ?p0, ?step, ?fin⟩
  case p0 =>
    refine' ⟨_, _, _, _, _, rfl, by assumption, ?ln, ?cv, rfl, ?fl, ?ne, ?v0, ?v1, fun i h => absurd h (Nat.not_lt_zero _)⟩
    case ln => exact Nat.le_refl 2
    case cv => assumption
    case fl => exact vint_eq full_lit
    case ne => rfl
    case v0 => exact ⟨_, vint_eq (show (0 : Int) = (wnat fF 64 : Int) by rw [w_zero]; rfl)⟩
    case v1 => exact ⟨_, vint_eq (full_lit.trans full_eq)⟩
  case step =>
    clear N3 F3 hr
    rintro j m1 news1 hj ⟨oW, oT, kvs, cv, tf, rfl, hdW, hlen, hcv, k1, k2, k3, v0, v1, vi⟩ t hh tk F4 N4 off
    rw [Int.zero_add]
    have i1 := off _ (.head _)
    have i2 := off _ (.tail _ (.head _))
    have i3 := off _ (.tail _ (.tail _ (.head _)))
    have i4 := off _ (.tail _ (.tail _ (.tail _ (.head _))))
    have i5 : ∀ p ∈ own ++ nt, p.1 ≠ I := fun p hp => off p (.tail _ (.tail _ (.tail _ (.tail _ hp))))
    dsimp only at i1 i2 i3 i4
    obtain ⟨tj, hkj⟩ := keys_at (a0 := a0) (a1 := a1) (a2 := a2) (b0 := b0) (b1 := b1) (b2 := b2) hj
    k_steps
    rename News _ _ _ _ => N5
    rename Fr _ _ _ _ => F5
    rename IsRange _ _ _ _ _ _ _ _ => hr5
    unfold Hold
    with_unfolding_all refine LCt.CompSrcT.range (n := 64) (by rfl) F5 N5 hr5 (by decide) (by decide) (by rw [sizeLine_eq]; exact Nat.le_of_ble_eq_true rfl) ?_
    intro gg
    refine' crt_inv (RInv j ?nw) 64 ?st ?fn 64 0 [] _ (Nat.zero_add _) ?it
    case it => refine' ⟨[], .nil, rfl, rfl⟩
    case st =>
      clear N5 F5 hr5
      rintro r ys news5 hr64 ⟨zs, hz, hzs, rfl⟩ v I' oI C oC D' m₂ hh5 tk5 E' hv hC hx2 F6 N6 off6 ne6
      obtain ⟨tv, rfl⟩ := hv
      rw [Int.zero_add] at hx2
      k_steps
      · unfold Hold
        rename News _ _ _ _ => N7
        rename Int.fmod _ _ = _ => hb
        exact r_endT off6 N7 (by k_asm) hz hzs (rows_t hb)
      · unfold Hold
        rename News _ _ _ _ => N7
        rename ¬ Int.fmod _ _ = _ => hb
        exact r_endF off6 N7 (by k_asm) hz hzs (rows_f hb)
    case fn =>
      clear N5 F5 hr5
      rintro ys news5 ⟨zs, hz, hzs, rfl⟩
      k_steps
      unfold Hold
      rename News _ _ _ _ => NN
      have sl := stored_length_le kvs ((2 + j : Nat) : Int) (.int zs.sum 0)
      refine' UnrEnd.intro ?F9 (news_tail NN) _ (fun _ h => h) (List.forall_mem_cons.mpr ⟨i1, List.forall_mem_cons.mpr ⟨i2, List.forall_mem_cons.mpr ⟨i3, List.forall_mem_cons.mpr ⟨i4, i5⟩⟩⟩⟩) ⟨_, _, _, _, tf, rfl, ?hd9, ?ln9, ?cv9, k1, k2, k3, st_old v0 (by omega), st_old v1 (by omega), st_all vi hzs⟩
      case F9 => k_asm
      case hd9 => assumption
      case cv9 => assumption
      case ln9 => exact Nat.le_trans (stored_length_le _ _ _) (by omega)
  case fin =>
    clear N3 F3 hr
    rintro m1 news1 ⟨oW, oT, kvs, cv, tf, rfl, hdW, hlen, hcv, k1, k2, k3, v0, v1, vi⟩ hh tk F4 N4
    dsimp only
    k_steps
    rename News _ _ _ _ => N5
    rename Fr _ _ _ _ => F5
    refine ⟨A.C, _, ces.map (fun x => Value.ref x.at_), ec, _, _, rfl, by rfl, .tail _ (.tail _ (.tail _ (.tail _ (List.mem_append_right _ mC)))), rfl, rfl, (fun v hv => ?_), F5, N5, ?_⟩
    · obtain ⟨x, _, rfl⟩ := List.mem_map.mp hv
      exact ⟨_, rfl⟩
    intro I lI
    refine' ⟨LInv prog w V D ?Wd2 ?rest2, ?q0, ?qm, ?qs, ?qf⟩
    case q0 => refine' ⟨_, _, tf, rfl, hdW, hlen, k2, k1, linv0 K.v0 K.v1 K.vin v0 v1 vi⟩
    case qm =>
      rintro j m2 news2 ⟨oW2, kvs2, tf2, rfl, _⟩
      exact .tail _ (.tail _ (.tail _ (.tail _ (List.mem_append_right _ mC))))
    case qs =>
      rintro j m2 news2 v hv ⟨oW2, kvs2, tf2, rfl, hd2, hl2, f2, g2, hall2⟩ it hh2 tk2 hit F6 N6 off2
      obtain ⟨x, hx, rfl⟩ : ∃ x, ces[j]? = some x ∧ v = Value.ref x.at_ := by
        rw [List.getElem?_map] at hv
        cases hx : ces[j]? with
        | none => rw [hx] at hv; cases hv
        | some x => rw [hx] at hv; exact ⟨x, rfl, (Option.some.inj hv).symm⟩
      obtain ⟨e1, e2⟩ := K.cel x (List.mem_of_getElem? hx)
      obtain ⟨q1, q2, q3, q4⟩ := K.outs j x hx
      obtain ⟨kd, kt, out, ot, ins, at_, insAt⟩ := x
      dsimp only at e1 e2 q1 q2 q3 q4
      have e1 := mT _ e1
      have e2 := mT _ e2
      have hj := (List.getElem?_eq_some_iff.mp hx).1
      subst q1
      have i1 := off2 _ (.head _)
      have i2 := off2 _ (.tail _ (.head _))
      have i3 := off2 _ (.tail _ (.tail _ (.head _)))
      have i4 := off2 _ (.tail _ (.tail _ (.tail _ (.head _))))
      have i5 : ∀ p ∈ own ++ nt, p.1 ≠ I := fun p hp => off2 p (.tail _ (.tail _ (.tail _ (.tail _ hp))))
      dsimp only at i1 i2 i3 i4
      have mark : CellMark := trivial
      k_steps
      rename News _ _ _ _ => N8
      rename Fr _ _ _ _ => F8
      refine ⟨insAt, (ivals ins).toArray, _, rfl, by rfl, F8, N8, ⟨_, by k_mem, rfl, _, rfl⟩, by simp only [List.size_toArray, List.length_map, q2, sizeLine_eq]; exact Nat.le_trans (ar_bd kd).2 (by decide), fun gg => ?_⟩
      have sz : (ivals ins).toArray.size = ins.length := by simp
      rw [sz]
      refine' cr_inv (WComp V ins ?nwc) ins.length ?cst ?cfn ins.length 0 [] _ (Nat.zero_add _) ?cit
      case cit => refine' ⟨[], rfl, rfl, rfl, rfl⟩
      case cst =>
        clear N8 F8
        rintro k ys news5 hk ⟨bs, rfl, hbl, hbm, rfl⟩ v I' oI C oC D' m₃ hh5 tk5 E' hv9 hC hx2 F9 N9 off9 ne9
        obtain ⟨p, hp⟩ : ∃ p, ins[k]? = some p := ⟨ins[k]'hk, by simp⟩
        have ev : v = .int p.1 p.2 := by
          simp [hp] at hv9
          exact hv9.symm
        subst ev
        have q9 := q3 p (List.mem_of_getElem? hp)
        obtain ⟨t9, hv8⟩ := hall2 p.1 q9.1 q9.2
        k_steps
        unfold Hold
        rename News _ _ _ _ => N7
        rename Fr _ _ _ _ => F7
        refine LCg.CompEnd.intro F7 N7 _ (fun _ h => h) off9 ⟨_, by k_mem, rfl, _, rfl⟩ ⟨bs ++ [⟨0, t9, V p.1⟩], ?_, ?_, wcomp_step hbm hp, rfl⟩
        · simp
        · simp [hbl]
      case cfn =>
        clear N8 F8
        rintro ys news5 ⟨bs, rfl, hbl, hbm, rfl⟩
        have ab := ar_bd kd
        have b1 : 1 ≤ ins.length := by rw [q2]; exact ab.1
        have b3 : ins.length ≤ 3 := by rw [q2]; exact ab.2
        k_steps
        unfold Hold
        rename News _ _ _ _ => NN
        rename _ = (wnat _ 64 : Int) => ez
        refine' UnrEnd.intro ?F9 (news_tail NN) _ (fun _ h => h) (List.forall_mem_cons.mpr ⟨i1, List.forall_mem_cons.mpr ⟨i2, List.forall_mem_cons.mpr ⟨i3, List.forall_mem_cons.mpr ⟨i4, i5⟩⟩⟩⟩) ⟨_, _, tf2, rfl, ?hd9, ?ln9, ?fu9, ?ke9, linv_step hall2 (ez.trans (by rw [q4, sem_tab (hbl.trans q2), hbm, List.take_of_length_le (Nat.le_refl _)]))⟩
        case F9 => k_asm
        case hd9 => assumption
        case fu9 => walk_at "mlook"
        case ke9 => walk_at "mlook"
        case ln9 => exact Nat.le_trans (stored_length_le _ _ _) (by omega)
    case qf =>
      rintro m2 news2 ⟨oW2, kvs2, tf2, rfl, hd2, hl2, f2, g2, hall2⟩ hh2 tk2 F6 N6
      k_steps
      rename News _ _ _ _ => NN
      have e64 : (2 : Int) ^ Int.toNat 6 = 64 := by decide
      rw [e64] at NN
      have G5 : ∀ p ∈ gs, ∃ t, valueAt kvs2 p.1 = some (.int (wnat p.2 64 : Int) t) := by
        intro p hp
        obtain ⟨g0, g1, g3⟩ := gg p hp
        rw [← g3]
        refine hall2 p.1 g0 ?_
        have hc := K.cnt
        rw [List.length_map]
        omega
      exact ret _ _ _ _ _ _ _ (by k_asm) (news_pair NN) hd2 G5
end
end Mine93
-- Zsg
namespace Mine93

theorem kwZsg0 : True := by
  k_with_none
  (k_with "room" => first | exact Nat.le_of_ble_eq_true rfl | exact room2 (by assumption) (Nat.le_of_ble_eq_true rfl) | exact room3 (by assumption) (Nat.le_of_ble_eq_true rfl) | exact room1 (by assumption))
  (k_with "units" => first | exact Nat.le_of_ble_eq_true rfl | exact room2 (by assumption) (Nat.le_of_ble_eq_true rfl) | exact room3 (by assumption) (Nat.le_of_ble_eq_true rfl) | exact room1 (by assumption))
  (k_with "splits" => first | exact Split.app | (refine' Split.cons ?kqx; (case kqx => walk_at "splits")) | exact Split.nil)
  (k_with "sub" => ((repeat (first | exact sub_refl | exact sub_appL | exact sub_appR | (refine sub_cons ?kqmem ?_; (case kqmem => k_mem)) | refine sub_tail ?_)); done))
  (k_with "gsub" => ((repeat (first | exact fun _ h => h | (refine gsub_cons ?kqmem ?_; (case kqmem => k_mem)) | refine gsub_tail ?_)); done))
  (k_with "lts" => first | exact lt0 (by assumption) | exact lt1 (by assumption) | exact lt2 (by assumption) | exact lt3 (by assumption) | exact lt4 (by assumption) | exact lt5 (by assumption) | exact lt6 (by assumption) | exact lt7 (by assumption) | exact lt8 (by assumption) | exact lt9 (by assumption) | exact lt10 (by assumption) | exact lt11 (by assumption) | exact lt12 (by assumption) | exact lt13 (by assumption) | exact lt14 (by assumption) | exact lt15 (by assumption) | exact lt16 (by assumption) | exact lt17 (by assumption) | exact lt18 (by assumption) | exact lt19 (by assumption))
  (k_with "notin" => first | assumption | exact Apart.at (by assumption) (by k_mem) | exact OffM.notI (by assumption) (by walk_at "sub") | exact OffM.notC (by assumption) (by walk_at "sub") | exact OffM.notD (by assumption) (by walk_at "sub") | exact Hi.not (by assumption) (by walk_at "sub") | exact OffD.not (by assumption) (by walk_at "sub") | exact not_of_lt (by walk_at "lts") (by walk_at "sub"))
  (k_with "ina" => first | exact InA.here | (refine' InA.next ?kqp; (case kqp => walk_at "ina")) | fail)
  (k_with "k_ne" => ((try dsimp only); first | assumption | exact Ne.symm (by assumption) | (refine' OffD.at ?kqh ?kqm; (case kqh => assumption); (case kqm => walk_at "ina")) | (refine' OffD.at' ?kqh ?kqm; (case kqh => assumption); (case kqm => walk_at "ina")) | exact ne_lt' (by assumption) | exact ne_gt' (by assumption) | fail))
  (k_with "k_all" => first | exact List.forall_mem_nil _ | (refine' List.forall_mem_cons.mpr ⟨?kqa, ?kqb⟩; (case kqa => k_ne); (case kqb => k_all)) | assumption | exact Apart.ne (by assumption) (by k_mem) | (refine all_app ?_ ?_ <;> k_all) | exact Hi.ne (by assumption) (by walk_at "sub") | exact ne_of_lt' (by walk_at "lts") (by walk_at "sub") | exact OffD.ne' (by assumption) (by walk_at "sub"))
  (k_with "subscriptTail Name Name ref int" => (k_here; (with_reducible show wpAny _ _ (subscriptTail _ _ (Value.ref _) (Value.int _ _)) _ _ _); k_dflt (refine' item_own_neg ?kqN ?kqm ?kqa ?kqb ?kqc ?kqx ?_; (case kqN => k_asm); (case kqm => k_mem); (case kqa => decide); (case kqb => decide); (case kqc => decide); (case kqx => rfl))))
  (k_with "subscriptTail Name Name ref int" => (k_here; (with_reducible show wpAny _ _ (subscriptTail _ _ (Value.ref _) (Value.int _ _)) _ _ _); k_dflt (refine' item_own ?kqN ?kqm ?kqa ?kqb ?kqx ?_; (case kqN => k_asm); (case kqm => k_mem); (case kqa => decide); (case kqb => decide); (case kqx => rfl))))
  (k_with "subscriptTail Name BinOp ref int" => (k_here; (with_reducible show wpAny _ _ (subscriptTail _ _ (Value.ref _) (Value.int _ _)) _ _ _); k_dflt (refine' item_own_neg ?kqN ?kqm ?kqa ?kqb ?kqc ?kqx ?_; (case kqN => k_asm); (case kqm => k_mem); (case kqa => decide); (case kqb => decide); (case kqc => decide); (case kqx => rfl))))
  (k_with "subscriptTail Name BinOp ref int" => (k_here; (with_reducible show wpAny _ _ (subscriptTail _ _ (Value.ref _) (Value.int _ _)) _ _ _); k_dflt (refine' item_own ?kqN ?kqm ?kqa ?kqb ?kqx ?_; (case kqN => k_asm); (case kqm => k_mem); (case kqa => decide); (case kqb => decide); (case kqx => rfl))))
  (k_with "subscriptTail Name UnaryOp ref int" => (k_here; (with_reducible show wpAny _ _ (subscriptTail _ _ (Value.ref _) (Value.int _ _)) _ _ _); k_dflt (refine' item_own_neg ?kqN ?kqm ?kqa ?kqb ?kqc ?kqx ?_; (case kqN => k_asm); (case kqm => k_mem); (case kqa => decide); (case kqb => decide); (case kqc => decide); (case kqx => rfl))))
  (k_with "subscriptTail Name UnaryOp ref int" => (k_here; (with_reducible show wpAny _ _ (subscriptTail _ _ (Value.ref _) (Value.int _ _)) _ _ _); k_dflt (refine' item_own ?kqN ?kqm ?kqa ?kqb ?kqx ?_; (case kqN => k_asm); (case kqm => k_mem); (case kqa => decide); (case kqb => decide); (case kqx => rfl))))
  (k_with "subscriptTail Name Constant ref int" => (k_here; (with_reducible show wpAny _ _ (subscriptTail _ _ (Value.ref _) (Value.int _ _)) _ _ _); k_dflt (refine' item_own_neg ?kqN ?kqm ?kqa ?kqb ?kqc ?kqx ?_; (case kqN => k_asm); (case kqm => k_mem); (case kqa => decide); (case kqb => decide); (case kqc => decide); (case kqx => rfl))))
  (k_with "subscriptTail Name Constant ref int" => (k_here; (with_reducible show wpAny _ _ (subscriptTail _ _ (Value.ref _) (Value.int _ _)) _ _ _); k_dflt (refine' item_own ?kqN ?kqm ?kqa ?kqb ?kqx ?_; (case kqN => k_asm); (case kqm => k_mem); (case kqa => decide); (case kqb => decide); (case kqx => rfl))))
  (k_with "subscriptTail" => (k_here; (with_reducible show wpAny _ _ (subscriptTail _ _ (Value.ref _) (Value.int _ _)) _ _ _); k_dflt (refine' item_own_neg ?kqN ?kqm ?kqa ?kqb ?kqc ?kqx ?_; (case kqN => k_asm); (case kqm => k_mem); (case kqa => decide); (case kqb => decide); (case kqc => decide); (case kqx => rfl))))
  (k_with "subscriptTail" => (k_here; (with_reducible show wpAny _ _ (subscriptTail _ _ (Value.ref _) (Value.int _ _)) _ _ _); k_dflt (refine' item_own ?kqN ?kqm ?kqa ?kqb ?kqx ?_; (case kqN => k_asm); (case kqm => k_mem); (case kqa => decide); (case kqb => decide); (case kqx => rfl))))
  (k_with "num" => first | exact (show _ = (0 : Int) by decide) | exact (show _ = (1 : Int) by decide) | exact (show _ = (2 : Int) by decide) | exact (show _ = (3 : Int) by decide) | exact (show _ = (4 : Int) by decide) | exact (show _ = (5 : Int) by decide) | exact (show _ = (6 : Int) by decide) | exact (show _ = (7 : Int) by decide) | exact (show _ = (8 : Int) by decide))
  (k_with "exec For Name Subscript cons nil" => (k_here; (rename Fr _ _ _ _ => lF'); (with_unfolding_all refine' For_invVF lF' ?kqk1 ?kqk2 ?_; (case kqk1 => exact rfl); (case kqk2 => exact rfl); k_whole)))
  (k_with "call builtin:min cons nil" => (k_here; (with_reducible show wpAny _ _ (call (Value.builtin _) [Value.int _ _, Value.int _ _]) _ _ _); k_dflt (refine' min_le_N ?kqab ?kqhh ?kqF ?kqN ?_; (case kqab => decide); (case kqhh => exact rfl); (case kqF => k_asm); (case kqN => k_asm)); intro h' tk' F' N'; (try k_sweep)))
  (k_with "binaryOp Sub int int" => (k_here; k_dflt (refine' sub_int_k ?kqhk ?_; (case kqhk => walk_at "num"))))
  (k_with "RangeRest" => (with_unfolding_all first | (refine' rr_succ ?kqhv (fun t' h' tk' F' N' => ?_); (case kqhv => walk_at "num")) | (refine RangeRest.zero (fun h' tk' F' N' => ?_))))
  (k_with "eval ListComp" => (k_here; k_dflt (refine LCg.ListComp_U (F₀ := by k_asm) (by with_unfolding_all rfl) (by decide) (by rfl) (by decide) (by rfl) ?_); k_dflt lcg_toSrc))
  (k_with "CompSrc" => (k_here; k_dflt (first
  | (refine LCg.CompSrc.ledger (by rfl) (by k_asm) (by k_asm) (by k_mem) (by first | exact Nat.le_of_ble_eq_true rfl | size_fits) ?_; intro g'; lcg_lit)
  | (refine LCg.CompSrc.range (by rfl) (by k_asm) (by k_asm) (by assumption) (by first | decide | rfl) (by first | rfl | decide) (by first | exact Nat.le_of_ble_eq_true rfl | size_fits) ?_; intro g'; lcg_lit))))
  (k_with "CompRest" => (with_unfolding_all first
  | (refine LCg.CompRest.succ ?_; intro v' I' oI' C' oC' D' m' h' tk' E' hv' hC' hx' F' N' off' ne'; (first | lcg_open hv' | (obtain ⟨t9', hv9'⟩ := hv'; subst hv9')); (have o9' := offM_of off'); (try simp only [LCg.Off3, and_true] at off'))
  | refine LCg.CompRest.zero ?_))
  (k_with "CompEnd" => (k_dflt (refine' comp_end ?kqF ?kqN ?kqo ?kqS ?_; (case kqF => k_asm); (case kqN => k_asm); (case kqo => first | exact LCg.Off3.of (by assumption) | (refine' off3_next ?kqSp ?kqm ?kqs ?kqa; (case kqSp => walk_at "splits"); (case kqm => assumption); (case kqs => walk_at "sub"); (case kqa => assumption))); (case kqS => lcg_src))))
  (k_with "pull" => first | exact Pull.here | (refine' Pull.next ?kqp; (case kqp => walk_at "pull")))
  (k_with "UnrEnd" => (k_dflt (refine' unr_end ?kqF ?kqN ?kqp ?kqo ?_; (case kqF => k_asm); (case kqN => k_asm); (case kqp => walk_at "pull"); (case kqo => k_all))))
  (k_with "UnrEnd" => (k_dflt (refine' unr_endL ?kqF ?kqN ?kqp ?kqo ?kqm ?_; (case kqF => k_asm); (case kqN => k_asm); (case kqp => walk_at "pull"); (case kqo => k_all); (case kqm => k_mem))))
  (k_with "pyIter ref" => ((with_reducible show wpAny _ _ (pyIter (Value.ref _)) (fun it s₂ => LoopAtV _ _ _ _ _ _ _ _ _ it s₂) _ _); k_here; k_dflt (refine' iter_listL ?kqhh ?kqF ?kqN ?kqm ?_; (case kqhh => exact rfl); (case kqF => k_asm); (case kqN => k_asm); (case kqm => k_mem)); intro i' l1; (try k_lt l1)))
  (k_with "FinE" => ((unfold LCg.FinE); intro D' h' tk' F' N' o1'; (have o8' := offD_of o1'); (try simp only [LCg.Off1, and_true] at o1'); (try simp only [List.nil_append, List.cons_append] at N'); (try dsimp only)))
  (k_with "FinA" => ((unfold LCg.FinA); intro D' h' tk' F' N' o1'; (have o8' := offD_of o1'); (try simp only [LCg.Off1, and_true] at o1'); (try simp only [List.nil_append, List.cons_append] at N'); (try dsimp only)))
  (k_with "k_mem" => first | ((with_reducible refine mem_appL ?_); ktr_member) | ((with_reducible refine mem_appR ?_); ktr_member) | ((with_reducible refine mem_raw ?_); ktr_member))
  (k_with "execs cons Assign cons" => ((with_reducible refine wpAny_execs_cons ?_); try dsimp only))
  (k_with "exec While Compare cons nil" => (k_here; k_dflt (refine whl_start 100 ?_)))
  (k_with "pyIter ref" => ((with_reducible show wpAny _ _ (pyIter (Value.ref _)) (fun it s₂ => LoopAtV _ _ _ _ _ _ _ _ _ it s₂) _ _); k_here; l_hasStore; first | k_rangeUnr | krs_unr))
  (k_with "enterC" => (refine' code_defC ?kqk1 ?kqk2 ?kqk3 ?kqk4 ?kqk5 ?kqkA ?kqkF ?kqkK ?kqk6 ?kqk7 ?kqk8 ?kqk9 ?kqkB ?kqkD ?_ ?kqc2 ?kqc3 ?kqc4; (case kqkA => exact rfl); (case kqkF => exact rfl); (case kqkK => assumption); (case kqk1 => k_asm); (case kqk2 => k_asm); (case kqk3 => k_asm); (case kqk4 => k_asm); (case kqk5 => k_asm); (case kqk6 => k_is); (case kqk7 => k_is); (case kqk8 => ktr_room); (case kqk9 => exact BindsTo.of_eq rfl); (case kqkB => exact rfl); (case kqkD => decide +kernel); (case kqc2 => exact rfl); (case kqc3 => exact rfl); (case kqc4 => exact rfl); k_whole; intro g' L' h' tk' cells' FG' F' N' Y' B' X' T' l1; (have l9 := hi_of l1); (have l8 := hi_succ l9); (have l7 := hi_succ2 l9); (have l6 := hi_succ3 l9); (have l5 := hi_succ4 l9); (try k_lt l1); k_cells Y'; (try simp only [List.cons_append, List.nil_append] at N'); (try dsimp only); (try k_fold)))
  (k_with "split" => first | exact Split.app | (refine' Split.cons ?kqx; (case kqx => walk_at "split")) | exact Split.nil)
  (k_with "apart" => first | assumption | exact Apart.nil | (refine' Apart.cons ?kqa ?kqb; (case kqa => walk_at "notin"); (case kqb => walk_at "apart")) | exact Apart.sub (by assumption) (by walk_at "sub"))
  (k_with "kind" => first | exact rfl | assumption)
  trivial
def sgn (c : Bool) (n x : Nat) : Int := if (c && decide (2 ^ (n - 1) ≤ x)) = true then (x : Int) - 2 ^ n else (x : Int)
theorem sgn_t {n x : Nat} {z : Int} (h : 2 ^ Int.toNat z ≤ (x : Int)) (e : Int.toNat z = n - 1 := by rfl) : (x : Int) - 2 ^ Int.toNat (n : Int) = sgn true n x := by
  rw [e] at h
  have h : 2 ^ (n - 1) ≤ x := by exact_mod_cast h
  simp [sgn, h]
theorem sgn_f {n x : Nat} {z : Int} (h : ¬ 2 ^ Int.toNat z ≤ (x : Int)) (e : Int.toNat z = n - 1 := by rfl) : (x : Int) = sgn true n x := by
  rw [e] at h
  have h : ¬ 2 ^ (n - 1) ≤ x := fun k => h (by exact_mod_cast k)
  simp [sgn, h]

section
variable {prog : Program} {w : World} {mg mb : Str → Option Value} {mean : ExcName → Option Value} {loose : List Str} {dp un : Nat} {gd : Option (List Code)} {cn : Str} {cs : Scope} {L a : Addr} {ccd : Value} {cl : List (Str × Addr)} {outer : List Env} {A₀ : Around}
  {base h₀ : Heap} {m : Str → Option Value} {s : Shared} {Q E : Value → Shared → Prop} {A : NA} {news own nt : List (Addr × Obj)} {gs : List (Int × RF)} {R : Nat}

theorem c_signed {x n : Nat} {c : Bool} {tx tn : Tok}
    (B : Below A₀ base outer h₀) (F : Fr h₀ L s.heap m) (X : (hd93.heap_1 w.params).In h₀) (N : News h₀ L s.heap news) (T : Top hd93.view_1 loose mean mg mb h₀) (hk : cs.kind = .function)
    (h1 : 1 ≤ n) (h3 : n ≤ 3) (hd : dp + 20 < recursionLimit) (hu : un + 160 < cLine)
    (ret : ∀ z t h' tk', z = sgn c n x → Fr h₀ L h' m → News h₀ L h' news → Q (.int z t) { s with heap := h', toks := tk' }) :
    wpAny (model prog w) (ktrTop dp un gd cn cs L a ccd cl outer) (call (.ref 306) [.int (x : Int) tx, .int (n : Int) tn, .bool c]) Q E s := by
  generalize hz : (n : Int) = z
  obtain ⟨rfl, rfl⟩ | ⟨rfl, rfl⟩ | ⟨rfl, rfl⟩ : (z = 1 ∧ n = 1) ∨ (z = 2 ∧ n = 2) ∨ (z = 3 ∧ n = 3) := by omega
  all_goals (
    clear hz
    cases c
    all_goals (
      refine wpAny_call ?_
      k_dflt (ktr_enter)
      k_steps))
  all_goals (
    refine' ret _ _ _ _ ?e ?F ?N
    case F => k_asm
    case N => k_asm
    case e => first | rfl | exact sgn_t (by assumption) | exact sgn_f (by assumption))
end
end Mine93
-- Zpp
namespace Mine93

theorem kwZpp0 : True := by
  k_with_none
  (k_with "room" => first | exact Nat.le_of_ble_eq_true rfl | exact room2 (by assumption) (Nat.le_of_ble_eq_true rfl) | exact room3 (by assumption) (Nat.le_of_ble_eq_true rfl) | exact room1 (by assumption))
  (k_with "units" => first | exact Nat.le_of_ble_eq_true rfl | exact room2 (by assumption) (Nat.le_of_ble_eq_true rfl) | exact room3 (by assumption) (Nat.le_of_ble_eq_true rfl) | exact room1 (by assumption))
  (k_with "splits" => first | exact Split.app | (refine' Split.cons ?kqx; (case kqx => walk_at "splits")) | exact Split.nil)
  (k_with "sub" => ((repeat (first | exact sub_refl | exact sub_appL | exact sub_appR | (refine sub_cons ?kqmem ?_; (case kqmem => k_mem)) | refine sub_tail ?_)); done))
  (k_with "gsub" => ((repeat (first | exact fun _ h => h | (refine gsub_cons ?kqmem ?_; (case kqmem => k_mem)) | refine gsub_tail ?_)); done))
  (k_with "lts" => first | exact lt0 (by assumption) | exact lt1 (by assumption) | exact lt2 (by assumption) | exact lt3 (by assumption) | exact lt4 (by assumption) | exact lt5 (by assumption) | exact lt6 (by assumption) | exact lt7 (by assumption) | exact lt8 (by assumption) | exact lt9 (by assumption) | exact lt10 (by assumption) | exact lt11 (by assumption) | exact lt12 (by assumption) | exact lt13 (by assumption) | exact lt14 (by assumption) | exact lt15 (by assumption) | exact lt16 (by assumption) | exact lt17 (by assumption) | exact lt18 (by assumption) | exact lt19 (by assumption))
  (k_with "notin" => first | assumption | exact Apart.at (by assumption) (by k_mem) | exact OffM.notI (by assumption) (by walk_at "sub") | exact OffM.notC (by assumption) (by walk_at "sub") | exact OffM.notD (by assumption) (by walk_at "sub") | exact Hi.not (by assumption) (by walk_at "sub") | exact OffD.not (by assumption) (by walk_at "sub") | exact not_of_lt (by walk_at "lts") (by walk_at "sub"))
  (k_with "ina" => first | exact InA.here | (refine' InA.next ?kqp; (case kqp => walk_at "ina")) | fail)
  (k_with "k_ne" => ((try dsimp only); first | assumption | exact Ne.symm (by assumption) | (refine' OffD.at ?kqh ?kqm; (case kqh => assumption); (case kqm => walk_at "ina")) | (refine' OffD.at' ?kqh ?kqm; (case kqh => assumption); (case kqm => walk_at "ina")) | exact ne_lt' (by assumption) | exact ne_gt' (by assumption) | fail))
  (k_with "k_all" => first | exact List.forall_mem_nil _ | (refine' List.forall_mem_cons.mpr ⟨?kqa, ?kqb⟩; (case kqa => k_ne); (case kqb => k_all)) | assumption | exact Apart.ne (by assumption) (by k_mem) | (refine all_app ?_ ?_ <;> k_all) | exact Hi.ne (by assumption) (by walk_at "sub") | exact ne_of_lt' (by walk_at "lts") (by walk_at "sub") | exact OffD.ne' (by assumption) (by walk_at "sub"))
  (k_with "subscriptTail Name Name ref int" => (k_here; (with_reducible show wpAny _ _ (subscriptTail _ _ (Value.ref _) (Value.int _ _)) _ _ _); k_dflt (refine' item_own_neg ?kqN ?kqm ?kqa ?kqb ?kqc ?kqx ?_; (case kqN => k_asm); (case kqm => k_mem); (case kqa => decide); (case kqb => decide); (case kqc => decide); (case kqx => rfl))))
  (k_with "subscriptTail Name Name ref int" => (k_here; (with_reducible show wpAny _ _ (subscriptTail _ _ (Value.ref _) (Value.int _ _)) _ _ _); k_dflt (refine' item_own ?kqN ?kqm ?kqa ?kqb ?kqx ?_; (case kqN => k_asm); (case kqm => k_mem); (case kqa => decide); (case kqb => decide); (case kqx => rfl))))
  (k_with "subscriptTail Name BinOp ref int" => (k_here; (with_reducible show wpAny _ _ (subscriptTail _ _ (Value.ref _) (Value.int _ _)) _ _ _); k_dflt (refine' item_own_neg ?kqN ?kqm ?kqa ?kqb ?kqc ?kqx ?_; (case kqN => k_asm); (case kqm => k_mem); (case kqa => decide); (case kqb => decide); (case kqc => decide); (case kqx => rfl))))
  (k_with "subscriptTail Name BinOp ref int" => (k_here; (with_reducible show wpAny _ _ (subscriptTail _ _ (Value.ref _) (Value.int _ _)) _ _ _); k_dflt (refine' item_own ?kqN ?kqm ?kqa ?kqb ?kqx ?_; (case kqN => k_asm); (case kqm => k_mem); (case kqa => decide); (case kqb => decide); (case kqx => rfl))))
  (k_with "subscriptTail Name UnaryOp ref int" => (k_here; (with_reducible show wpAny _ _ (subscriptTail _ _ (Value.ref _) (Value.int _ _)) _ _ _); k_dflt (refine' item_own_neg ?kqN ?kqm ?kqa ?kqb ?kqc ?kqx ?_; (case kqN => k_asm); (case kqm => k_mem); (case kqa => decide); (case kqb => decide); (case kqc => decide); (case kqx => rfl))))
  (k_with "subscriptTail Name UnaryOp ref int" => (k_here; (with_reducible show wpAny _ _ (subscriptTail _ _ (Value.ref _) (Value.int _ _)) _ _ _); k_dflt (refine' item_own ?kqN ?kqm ?kqa ?kqb ?kqx ?_; (case kqN => k_asm); (case kqm => k_mem); (case kqa => decide); (case kqb => decide); (case kqx => rfl))))
  (k_with "subscriptTail Name Constant ref int" => (k_here; (with_reducible show wpAny _ _ (subscriptTail _ _ (Value.ref _) (Value.int _ _)) _ _ _); k_dflt (refine' item_own_neg ?kqN ?kqm ?kqa ?kqb ?kqc ?kqx ?_; (case kqN => k_asm); (case kqm => k_mem); (case kqa => decide); (case kqb => decide); (case kqc => decide); (case kqx => rfl))))
  (k_with "subscriptTail Name Constant ref int" => (k_here; (with_reducible show wpAny _ _ (subscriptTail _ _ (Value.ref _) (Value.int _ _)) _ _ _); k_dflt (refine' item_own ?kqN ?kqm ?kqa ?kqb ?kqx ?_; (case kqN => k_asm); (case kqm => k_mem); (case kqa => decide); (case kqb => decide); (case kqx => rfl))))
  (k_with "subscriptTail" => (k_here; (with_reducible show wpAny _ _ (subscriptTail _ _ (Value.ref _) (Value.int _ _)) _ _ _); k_dflt (refine' item_own_neg ?kqN ?kqm ?kqa ?kqb ?kqc ?kqx ?_; (case kqN => k_asm); (case kqm => k_mem); (case kqa => decide); (case kqb => decide); (case kqc => decide); (case kqx => rfl))))
  (k_with "subscriptTail" => (k_here; (with_reducible show wpAny _ _ (subscriptTail _ _ (Value.ref _) (Value.int _ _)) _ _ _); k_dflt (refine' item_own ?kqN ?kqm ?kqa ?kqb ?kqx ?_; (case kqN => k_asm); (case kqm => k_mem); (case kqa => decide); (case kqb => decide); (case kqx => rfl))))
  (k_with "num" => first | exact (show _ = (0 : Int) by decide) | exact (show _ = (1 : Int) by decide) | exact (show _ = (2 : Int) by decide) | exact (show _ = (3 : Int) by decide) | exact (show _ = (4 : Int) by decide) | exact (show _ = (5 : Int) by decide) | exact (show _ = (6 : Int) by decide) | exact (show _ = (7 : Int) by decide) | exact (show _ = (8 : Int) by decide))
  (k_with "exec For Name Subscript cons nil" => (k_here; (rename Fr _ _ _ _ => lF'); (with_unfolding_all refine' For_invVF lF' ?kqk1 ?kqk2 ?_; (case kqk1 => exact rfl); (case kqk2 => exact rfl); k_whole)))
  (k_with "call builtin:min cons nil" => (k_here; (with_reducible show wpAny _ _ (call (Value.builtin _) [Value.int _ _, Value.int _ _]) _ _ _); k_dflt (refine' min_le_N ?kqab ?kqhh ?kqF ?kqN ?_; (case kqab => decide); (case kqhh => exact rfl); (case kqF => k_asm); (case kqN => k_asm)); intro h' tk' F' N'; (try k_sweep)))
  (k_with "binaryOp Sub int int" => (k_here; k_dflt (refine' sub_int_k ?kqhk ?_; (case kqhk => walk_at "num"))))
  (k_with "RangeRest" => (with_unfolding_all first | (refine' rr_succ ?kqhv (fun t' h' tk' F' N' => ?_); (case kqhv => walk_at "num")) | (refine RangeRest.zero (fun h' tk' F' N' => ?_))))
  (k_with "eval ListComp" => (k_here; k_dflt (refine LCg.ListComp_U (F₀ := by k_asm) (by with_unfolding_all rfl) (by decide) (by rfl) (by decide) (by rfl) ?_); k_dflt lcg_toSrc))
  (k_with "CompSrc" => (k_here; k_dflt (first
  | (refine LCg.CompSrc.ledger (by rfl) (by k_asm) (by k_asm) (by k_mem) (by first | exact Nat.le_of_ble_eq_true rfl | size_fits) ?_; intro g'; lcg_lit)
  | (refine LCg.CompSrc.range (by rfl) (by k_asm) (by k_asm) (by assumption) (by first | decide | rfl) (by first | rfl | decide) (by first | exact Nat.le_of_ble_eq_true rfl | size_fits) ?_; intro g'; lcg_lit))))
  (k_with "CompRest" => (with_unfolding_all first
  | (refine LCg.CompRest.succ ?_; intro v' I' oI' C' oC' D' m' h' tk' E' hv' hC' hx' F' N' off' ne'; (first | lcg_open hv' | (obtain ⟨t9', hv9'⟩ := hv'; subst hv9')); (have o9' := offM_of off'); (try simp only [LCg.Off3, and_true] at off'))
  | refine LCg.CompRest.zero ?_))
  (k_with "CompEnd" => (k_dflt (refine' comp_end ?kqF ?kqN ?kqo ?kqS ?_; (case kqF => k_asm); (case kqN => k_asm); (case kqo => first | exact LCg.Off3.of (by assumption) | (refine' off3_next ?kqSp ?kqm ?kqs ?kqa; (case kqSp => walk_at "splits"); (case kqm => assumption); (case kqs => walk_at "sub"); (case kqa => assumption))); (case kqS => lcg_src))))
  (k_with "pull" => first | exact Pull.here | (refine' Pull.next ?kqp; (case kqp => walk_at "pull")))
  (k_with "UnrEnd" => (k_dflt (refine' unr_end ?kqF ?kqN ?kqp ?kqo ?_; (case kqF => k_asm); (case kqN => k_asm); (case kqp => walk_at "pull"); (case kqo => k_all))))
  (k_with "UnrEnd" => (k_dflt (refine' unr_endL ?kqF ?kqN ?kqp ?kqo ?kqm ?_; (case kqF => k_asm); (case kqN => k_asm); (case kqp => walk_at "pull"); (case kqo => k_all); (case kqm => k_mem))))
  (k_with "pyIter ref" => ((with_reducible show wpAny _ _ (pyIter (Value.ref _)) (fun it s₂ => LoopAtV _ _ _ _ _ _ _ _ _ it s₂) _ _); k_here; k_dflt (refine' iter_listL ?kqhh ?kqF ?kqN ?kqm ?_; (case kqhh => exact rfl); (case kqF => k_asm); (case kqN => k_asm); (case kqm => k_mem)); intro i' l1; (try k_lt l1)))
  (k_with "FinE" => ((unfold LCg.FinE); intro D' h' tk' F' N' o1'; (have o8' := offD_of o1'); (try simp only [LCg.Off1, and_true] at o1'); (try simp only [List.nil_append, List.cons_append] at N'); (try dsimp only)))
  (k_with "FinA" => ((unfold LCg.FinA); intro D' h' tk' F' N' o1'; (have o8' := offD_of o1'); (try simp only [LCg.Off1, and_true] at o1'); (try simp only [List.nil_append, List.cons_append] at N'); (try dsimp only)))
  (k_with "k_mem" => first | ((with_reducible refine mem_appL ?_); ktr_member) | ((with_reducible refine mem_appR ?_); ktr_member) | ((with_reducible refine mem_raw ?_); ktr_member))
  (k_with "execs cons Assign cons" => ((with_reducible refine wpAny_execs_cons ?_); try dsimp only))
  (k_with "exec While Compare cons nil" => (k_here; k_dflt (refine whl_start 100 ?_)))
  (k_with "pyIter ref" => ((with_reducible show wpAny _ _ (pyIter (Value.ref _)) (fun it s₂ => LoopAtV _ _ _ _ _ _ _ _ _ it s₂) _ _); k_here; l_hasStore; first | k_rangeUnr | krs_unr))
  (k_with "enterC" => (refine' code_defC ?kqk1 ?kqk2 ?kqk3 ?kqk4 ?kqk5 ?kqkA ?kqkF ?kqkK ?kqk6 ?kqk7 ?kqk8 ?kqk9 ?kqkB ?kqkD ?_ ?kqc2 ?kqc3 ?kqc4; (case kqkA => exact rfl); (case kqkF => exact rfl); (case kqkK => assumption); (case kqk1 => k_asm); (case kqk2 => k_asm); (case kqk3 => k_asm); (case kqk4 => k_asm); (case kqk5 => k_asm); (case kqk6 => k_is); (case kqk7 => k_is); (case kqk8 => ktr_room); (case kqk9 => exact BindsTo.of_eq rfl); (case kqkB => exact rfl); (case kqkD => decide +kernel); (case kqc2 => exact rfl); (case kqc3 => exact rfl); (case kqc4 => exact rfl); k_whole; intro g' L' h' tk' cells' FG' F' N' Y' B' X' T' l1; (have l9 := hi_of l1); (have l8 := hi_succ l9); (have l7 := hi_succ2 l9); (have l6 := hi_succ3 l9); (have l5 := hi_succ4 l9); (try k_lt l1); k_cells Y'; (try simp only [List.cons_append, List.nil_append] at N'); (try dsimp only); (try k_fold)))
  (k_with "split" => first | exact Split.app | (refine' Split.cons ?kqx; (case kqx => walk_at "split")) | exact Split.nil)
  (k_with "apart" => first | assumption | exact Apart.nil | (refine' Apart.cons ?kqa ?kqb; (case kqa => walk_at "notin"); (case kqb => walk_at "apart")) | exact Apart.sub (by assumption) (by walk_at "sub"))
  (k_with "kind" => first | exact rfl | assumption)
  trivial
theorem any_t {x : Int} (h : (List.any [1, -1] fun z => z == x) = true) : x = 1 ∨ x = -1 := by
  simp only [List.any_cons, List.any_nil, Bool.or_false, Bool.or_eq_true, beq_iff_eq] at h; omega
theorem any_f {x : Int} (h : (List.any [1, -1] fun z => z == x) = false) : ¬ (x = 1 ∨ x = -1) := by
  simp only [List.any_cons, List.any_nil, Bool.or_false, Bool.or_eq_false_iff, beq_eq_false_iff_ne] at h; omega
theorem fm_nonneg {y : Int} : 0 ≤ Int.fmod y 2 := Int.fmod_nonneg_of_pos _ (by decide)
theorem fm_le {y : Int} : Int.fmod y 2 ≤ 1000000 := by have := Int.fmod_lt_of_pos y (show (0:Int) < 2 by decide); omega
def pwd (a b : Int) : Int := if 0 ≤ b then a ^ b.toNat else if a = 1 ∨ a = -1 then a ^ (Int.fmod b 2).toNat else 0
theorem kwZpp1 : True := by
  (k_with "binaryOp Pow int int" => (k_here; (with_reducible refine pow_int_small ?kqa ?kqb ?kqc ?_); (case kqa => first | omega | exact fm_nonneg); (case kqb => first | omega | exact fm_le); (case kqc => omega)))
  trivial

section
variable {prog : Program} {w : World} {mg mb : Str → Option Value} {mean : ExcName → Option Value} {loose : List Str} {dp un : Nat} {gd : Option (List Code)} {cn : Str} {cs : Scope} {L a : Addr} {ccd : Value} {cl : List (Str × Addr)} {outer : List Env} {A₀ : Around}
  {base h₀ : Heap} {m : Str → Option Value} {s : Shared} {Q E : Value → Shared → Prop} {A : NA} {news own nt : List (Addr × Obj)} {gs : List (Int × RF)} {R : Nat}

theorem c_powered {x y : Int} {tx tn : Tok}
    (B : Below A₀ base outer h₀) (F : Fr h₀ L s.heap m) (X : (hd93.heap_1 w.params).In h₀) (N : News h₀ L s.heap news) (T : Top hd93.view_1 loose mean mg mb h₀) (hk : cs.kind = .function)
    (h1 : -8 ≤ x) (h3 : x ≤ 8) (q1 : -8 ≤ y) (q3 : y ≤ 8) (hd : dp + 20 < recursionLimit) (hu : un + 160 < cLine)
    (ret : ∀ z t h' tk', z = pwd x y → Fr h₀ L h' m → News h₀ L h' news → Q (.int z t) { s with heap := h', toks := tk' }) :
    wpAny (model prog w) (ktrTop dp un gd cn cs L a ccd cl outer) (call (.ref 313) [.int x tx, .int y tn]) Q E s := by
  refine wpAny_call ?_
  k_dflt (ktr_enter)
  rename Fr _ _ _ (fun y => List.lookup y _) => FN
  replace FN : Fr _ _ _ (fun y9 => List.lookup y9 [(Str.ofString "two", .int y tn), (Str.ofString "one", .int x tx)]) := FN
  generalize (Shared.toks s + List.length _) = tk0
  k_steps
  · exact ret _ _ _ _ (by unfold pwd; rw [if_pos (by omega)]) (by k_asm) (by k_asm)
  · rename News _ _ _ _ => NN
    exact ret _ _ _ _ (by unfold pwd; rw [if_neg (by omega), if_pos (any_t (by assumption))]) (by k_asm) fun p hp => NN p (.tail _ hp)
  · rename News _ _ _ _ => NN
    exact ret _ _ _ _ (by unfold pwd; rw [if_neg (by omega), if_neg (any_f (by assumption))]) (by k_asm) fun p hp => NN p (.tail _ hp)
end
end Mine93
-- Zmm
namespace Mine93


def OffA (D : Addr) (as : List Addr) : Prop := ∀ x ∈ as, x ≠ D
theorem offA {D x : Addr} {as : List Addr} (h : OffA D as) (hx : x ∈ as) : x ≠ D := h x hx
theorem offA_of {D : Addr} {l : List (Addr × Obj)} (h : OffD D l) : OffA D (l.map Prod.fst) := fun x hx => by
  obtain ⟨p, hp, rfl⟩ := List.mem_map.mp hx
  exact h p hp
structure Addrs (A : NA) (vc c H : Addr) : Prop where
  a1 : @LT.lt Nat _ vc c
  a2 : @LT.lt Nat _ c H
  a3 : @LT.lt Nat _ H A.dN
  a4 : @LT.lt Nat _ A.dN A.N
  a5 : @LT.lt Nat _ A.N A.I
  a6 : @LT.lt Nat _ A.I A.O
  a7 : @LT.lt Nat _ A.O A.C
  a8 : @LT.lt Nat _ A.C A.dG
  a9 : @LT.lt Nat _ A.dG A.G
  a10 : @LT.lt Nat _ A.G A.M
  a11 : @LT.lt Nat _ A.M A.P
  lo1 : (A.M == sysModules) = false
  lo2 : (A.P == sysModules) = false
theorem to_na {h₀ h : Heap} {L : Addr} {w : World} {P M G dG C O I N dN H c vc : Addr} {oP oM oC oO oI oc ov : Obj} {t1 t2 t3 t4 t5 g1 g2 g3 tc tp tq ts : Tok} {nm : Value} {sd : Int} {e : Nat}
    (X : News h₀ L h [(P, oP), (M, oM), (G, instObj 94 dG), (dG, gatD w.params ⟨dN, N, I, O, C, dG, G, M, P, t1, t2, t3, t4, t5, g1, g2, g3, nm, []⟩), (C, oC), (O, oO), (I, oI), (N, instObj 259 dN), (dN, netD w.params ⟨dN, N, I, O, C, dG, G, M, P, t1, t2, t3, t4, t5, g1, g2, g3, nm, []⟩ 2 tc), (H, listOf #[Value.ref c, .int 0 tp, .int 0 tq, .int sd ts] e), (c, oc), (vc, ov)]) :
    ∃ (A : NA) (H' c' : Addr) (tp tq ts : Tok) (sd : Int), A.kept = [] ∧ P = A.P ∧ M = A.M ∧ G = A.G ∧ dG = A.dG ∧ C = A.C ∧ O = A.O ∧ I = A.I ∧ N = A.N ∧ dN = A.dN ∧ H' = H ∧ c' = c ∧
      News h₀ L h [(H', hand c' 0 0 sd tp tq ts e), (A.dN, netD w.params A 2 tc), (A.I, oI), (A.P, oP), (A.M, oM), (A.G, instObj 94 A.dG), (A.dG, gatD w.params A), (A.C, oC), (A.O, oO), (A.N, instObj 259 A.dN), (c', oc), (vc, ov)] :=
  ⟨⟨dN, N, I, O, C, dG, G, M, P, t1, t2, t3, t4, t5, g1, g2, g3, nm, []⟩, H, c, tp, tq, ts, sd, rfl, rfl, rfl, rfl, rfl, rfl, rfl, rfl, rfl, rfl, rfl, rfl, fun p hp => by
    simp only [List.mem_cons, List.not_mem_nil, or_false] at hp
    rcases hp with rfl | rfl | rfl | rfl | rfl | rfl | rfl | rfl | rfl | rfl | rfl | rfl <;> exact X _ (by simp only [List.mem_cons, true_or, or_true])⟩

theorem n_rot {h₀ h : Heap} {L : Addr} {a b c : Addr × Obj} {r : List (Addr × Obj)} (N : News h₀ L h (a :: b :: c :: r)) : News h₀ L h (b :: c :: a :: r) := fun p hp => N p (by
  rcases List.mem_cons.mp hp with rfl | hp
  · exact .tail _ (.head _)
  rcases List.mem_cons.mp hp with rfl | hp
  · exact .tail _ (.tail _ (.head _))
  rcases List.mem_cons.mp hp with rfl | hp
  · exact .head _
  · exact .tail _ (.tail _ (.tail _ hp)))
abbrev gs0 : List (Int × RF) := [(0, fF), (1, fT), (2, inp 0), (3, inp 1), (4, inp 2), (5, inp 3), (6, inp 4), (7, inp 5)]

def V0 : Int → RF := fun n => if n = 1 then fT else if 2 ≤ n ∧ n < 8 then inp (n - 2).toNat else fF
theorem pairs_nil {prog : Program} {w : World} {es : List DictEntry} (h : Pairs (intKind prog w) es []) : es = [] := by cases h; rfl
theorem net0 {prog : Program} {w : World} {A : NA} {oM oP : Obj} {tc : Tok} {R : Nat} (kp : A.kept = []) (o : Ord A) (hM : oM.IsDictOf (intKind prog w) []) (hP : oP.IsDictOf (intKind prog w) []) (hR : R ≤ 100000) :
    Net prog w A (fixed w.params A 8 tc (listOf #[] 0) oM oP []) gs0 R := by
  refine ⟨8, tc, oM, oP, [], 0, [], V0, [], [], rfl, ?_, ?_, by simpa using hR⟩
  · exact {
      ord := o
      tup := fun p hp => nomatch hp
      kept := fun p hp => by rw [kp] at hp; exact hp
      cnt := rfl
      cel := fun x hx => nomatch hx
      outs := fun i x hx => by simp at hx
      v0 := rfl
      v1 := rfl
      vin := fun i hi => by
        have : i = 0 ∨ i = 1 ∨ i = 2 ∨ i = 3 ∨ i = 4 ∨ i = 5 := by omega
        rcases this with rfl | rfl | rfl | rfl | rfl | rfl <;> rfl
      mD := by
        obtain ⟨es, ep, q1, q2, q3, q4, q5⟩ := hM
        exact ⟨q1, ⟨es, ep, q2, by rw [pairs_nil q4]; rfl⟩, List.nodup_nil, fun x hx => nomatch hx⟩
      mOk := fun x hx => nomatch hx
      mL := Nat.le_refl 0
      oD := hP
      oOk := fun x hx => nomatch hx
      oL := Nat.zero_le _ }
  · intro p hp
    simp only [gs0, List.mem_cons, List.not_mem_nil, or_false] at hp
    rcases hp with rfl | rfl | rfl | rfl | rfl | rfl | rfl | rfl <;> exact ⟨by decide, by decide, rfl⟩
section
variable {prog : Program} {w : World} {A : Around} {E : Value → Shared → Prop} {s : Shared} {h₀ : Heap} {L a b : Addr} {m : Str → Option Value} {news : List (Addr × Obj)} {us vs : List NB} {ea eb y : Nat} {Q : Value → Shared → Prop} {value slice : PySem.Expr} {tv : Tok}
theorem n_push {x p q : Addr × Obj} {oth nt : List (Addr × Obj)} {h : Heap} (N : News h₀ L h (x :: p :: q :: (oth ++ nt))) : News h₀ L h (p :: q :: ((x :: oth) ++ nt)) := n_rot N
theorem ap_push {x p q : Addr × Obj} {oth nt : List (Addr × Obj)} (h : Apart (x :: p :: q :: oth) nt) : Apart (p :: q :: x :: oth) nt := fun y hy => h y (by
  rcases List.mem_cons.mp hy with rfl | hy
  · exact .tail _ (.head _)
  rcases List.mem_cons.mp hy with rfl | hy
  · exact .tail _ (.tail _ (.head _))
  rcases List.mem_cons.mp hy with rfl | hy
  · exact .head _
  · exact .tail _ (.tail _ (.tail _ hy)))
end

theorem n_st3 {h₀ h : Heap} {L : Addr} {x y p q z : Addr × Obj} {r : List (Addr × Obj)} (N : News h₀ L h (x :: y :: p :: q :: z :: r)) : News h₀ L h (p :: q :: x :: y :: z :: r) := news_sub N (List.forall_mem_cons.mpr ⟨.tail _ (.tail _ (.head _)), List.forall_mem_cons.mpr ⟨.tail _ (.tail _ (.tail _ (.head _))), List.forall_mem_cons.mpr ⟨.head _, List.forall_mem_cons.mpr ⟨.tail _ (.head _), List.forall_mem_cons.mpr ⟨.tail _ (.tail _ (.tail _ (.tail _ (.head _)))), fun p hp => .tail _ (.tail _ (.tail _ (.tail _ (.tail _ hp))))⟩⟩⟩⟩⟩)

theorem n_drop4 {h₀ h : Heap} {L : Addr} {a b c d : Addr × Obj} {r : List (Addr × Obj)} (N : News h₀ L h (a :: b :: c :: d :: r)) : News h₀ L h (a :: b :: c :: r) := news_sub N (List.forall_mem_cons.mpr ⟨.head _, List.forall_mem_cons.mpr ⟨.tail _ (.head _), List.forall_mem_cons.mpr ⟨.tail _ (.tail _ (.head _)), fun p hp => .tail _ (.tail _ (.tail _ (.tail _ hp)))⟩⟩⟩)
theorem ap_three {D P : Addr} {o po po' : Obj} {y q z : Addr × Obj} {oth nt : List (Addr × Obj)} (h : Apart (y :: (P, po) :: q :: z :: oth) nt) (g : ∀ r ∈ nt, D ≠ r.1) : Apart ((P, po') :: q :: (D, o) :: y :: z :: oth) nt := by
  intro a ha
  rcases List.mem_cons.mp ha with rfl | ha
  · exact h (P, po) (.tail _ (.head _))
  rcases List.mem_cons.mp ha with rfl | ha
  · exact h _ (.tail _ (.tail _ (.head _)))
  rcases List.mem_cons.mp ha with rfl | ha
  · exact g
  rcases List.mem_cons.mp ha with rfl | ha
  · exact h _ (.head _)
  · exact h _ (.tail _ (.tail _ (.tail _ ha)))
theorem bs_in {us vs : List NB} {k : Nat} {gs : List (Int × RF)} (hu : ∀ x ∈ nets us, x ∈ gs) (hv : ∀ x ∈ nets vs, x ∈ gs) : ∀ x ∈ nets ((us ++ vs).take k), x ∈ gs := fun x hx => by
  obtain ⟨b, hb, rfl⟩ := List.mem_map.mp hx
  rcases List.mem_append.mp (List.mem_of_mem_take hb) with hb | hb
  · exact hu _ (List.mem_map_of_mem hb)
  · exact hv _ (List.mem_map_of_mem hb)

theorem ne_cell {h₀ h : Heap} {L : Addr} {news : List (Addr × Obj)} {a vc : Addr} {o ov : Obj} {cv : Option Value} (N : News h₀ L h news) (h1 : (a, o) ∈ news) (h2 : (vc, ov) ∈ news) (c : ov.data = .cell cv) (d : ∀ cv, o.data ≠ .cell cv) : a ≠ vc := by
  rintro rfl
  have e1 := (N _ h1).1
  have e2 := (N _ h2).1
  dsimp only at e1 e2
  rw [e1] at e2
  cases e2
  exact d cv c
theorem to_rows {prog : Program} {w : World} {h₀ h : Heap} {L T W lL H vc S lP lT : Addr} {its : List Value} {oW ov : Obj} {eL eS eP eT : Nat} {logs bs plain told : List NB} {cv : Option Value} {kvs : List (Int × Value)} {oth nt : List (Addr × Obj)} {hs : List Value} {eh : Nat}
    (N : News h₀ L h ((T, tupOf its) :: (W, oW) :: (lL, listOf (vals logs) eL) :: (H, listOf hs.toArray eh) :: (vc, ov) :: (S, listOf (vals bs) eS) :: (lP, listOf (vals plain) eP) :: (lT, listOf (vals told) eT) :: (oth ++ nt))) (hcv : ov.data = .cell cv) (hd : oW.IsDictOf (intKind prog w) kvs)
    (nV : ∀ p ∈ oth, p.1 ≠ vc) :
    ∃ (rest : List (Addr × Obj)) (ov : Obj) (cv : Option Value), ov.data = .cell cv ∧ News h₀ L h ((vc, ov) :: rest) ∧ (∀ p ∈ rest, p.1 ≠ vc) ∧ (W, oW) ∈ rest ∧ (lL, listOf (vals logs) eL) ∈ rest ∧ (S, listOf (vals bs) eS) ∈ rest ∧ (lP, listOf (vals plain) eP) ∈ rest ∧ (lT, listOf (vals told) eT) ∈ rest ∧ ∀ p ∈ oth, p ∈ rest := by
  have mv : (vc, ov) ∈ (T, tupOf its) :: (W, oW) :: (lL, listOf (vals logs) eL) :: (H, listOf hs.toArray eh) :: (vc, ov) :: (S, listOf (vals bs) eS) :: (lP, listOf (vals plain) eP) :: (lT, listOf (vals told) eT) :: (oth ++ nt) := .tail _ (.tail _ (.tail _ (.tail _ (.head _))))
  refine ⟨(W, oW) :: (lL, listOf (vals logs) eL) :: (S, listOf (vals bs) eS) :: (lP, listOf (vals plain) eP) :: (lT, listOf (vals told) eT) :: oth, ov, cv, hcv, news_sub N (List.forall_mem_cons.mpr ⟨mv, List.forall_mem_cons.mpr ⟨.tail _ (.head _), List.forall_mem_cons.mpr ⟨.tail _ (.tail _ (.head _)), List.forall_mem_cons.mpr ⟨.tail _ (.tail _ (.tail _ (.tail _ (.tail _ (.head _))))), List.forall_mem_cons.mpr ⟨.tail _ (.tail _ (.tail _ (.tail _ (.tail _ (.tail _ (.head _)))))), List.forall_mem_cons.mpr ⟨.tail _ (.tail _ (.tail _ (.tail _ (.tail _ (.tail _ (.tail _ (.head _))))))), fun p hp => .tail _ (.tail _ (.tail _ (.tail _ (.tail _ (.tail _ (.tail _ (.tail _ (List.mem_append_left _ hp))))))))⟩⟩⟩⟩⟩⟩), ?_, .head _, .tail _ (.head _), .tail _ (.tail _ (.head _)), .tail _ (.tail _ (.tail _ (.head _))), .tail _ (.tail _ (.tail _ (.tail _ (.head _)))), fun p hp => .tail _ (.tail _ (.tail _ (.tail _ (.tail _ hp))))⟩
  refine List.forall_mem_cons.mpr ⟨ne_cell N (.tail _ (.head _)) mv hcv ?_, List.forall_mem_cons.mpr ⟨ne_cell N (.tail _ (.tail _ (.head _))) mv hcv ?_, List.forall_mem_cons.mpr ⟨ne_cell N (.tail _ (.tail _ (.tail _ (.tail _ (.tail _ (.head _)))))) mv hcv ?_, List.forall_mem_cons.mpr ⟨ne_cell N (.tail _ (.tail _ (.tail _ (.tail _ (.tail _ (.tail _ (.head _))))))) mv hcv ?_, List.forall_mem_cons.mpr ⟨ne_cell N (.tail _ (.tail _ (.tail _ (.tail _ (.tail _ (.tail _ (.tail _ (.head _)))))))) mv hcv ?_, nV⟩⟩⟩⟩⟩
  · intro cv e
    obtain ⟨es, ep, _, q, _⟩ := hd
    rw [q] at e; cases e
  all_goals (intro cv e; cases e)
def RowMark : Prop := True
def CntMark : Prop := True
theorem chk1 {p x y n : Nat} (h : p = x ^ y % 2 ^ n) : (p : Int) = Int.fmod ((x : Int) ^ Int.toNat (y : Int)) (2 ^ Int.toNat (n : Int)) := by
  subst h
  rw [Int.toNat_natCast, Int.toNat_natCast, Int.fmod_eq_emod_of_nonneg _ (Int.le_of_lt (Int.pow_pos (by decide)))]
  simp
def chkB (c d : Bool) : Bool := (List.range 4).all fun n => (List.range 4).all fun m => (List.range 8).all fun x => (List.range 8).all fun y =>
  !(decide (1 ≤ n) && decide (1 ≤ m) && decide (x < 2 ^ n) && decide (y < 2 ^ m)) || decide (((powN d c n m x y : Nat) : Int) = Int.fmod (pwd (sgn c n x) (sgn d m y)) (2 ^ n))
theorem chkB_ok (c d : Bool) : chkB c d = true := by cases c <;> cases d <;> decide +kernel
theorem chk2F {c d : Bool} {n m x y : Nat} (hn : n < 4) (hm : m < 4) (hx : x < 8) (hy : y < 8) (h1 : 1 ≤ n) (h2 : 1 ≤ m) (h3 : x < 2 ^ n) (h4 : y < 2 ^ m) : ((powN d c n m x y : Nat) : Int) = Int.fmod (pwd (sgn c n x) (sgn d m y)) (2 ^ n) := by
  have h := chkB_ok c d
  unfold chkB at h
  have h := List.all_eq_true.mp (List.all_eq_true.mp (List.all_eq_true.mp (List.all_eq_true.mp h n (List.mem_range.mpr hn)) m (List.mem_range.mpr hm)) x (List.mem_range.mpr hx)) y (List.mem_range.mpr hy)
  rw [decide_eq_true h1, decide_eq_true h2, decide_eq_true h3, decide_eq_true h4] at h
  simpa using h
theorem chk2 {c d : Bool} {n m x y p : Nat} {z z1 z2 : Int} (h : p = powN d c n m x y) (n1 : 1 ≤ n) (n3 : n ≤ 3) (m1 : 1 ≤ m) (m3 : m ≤ 3) (hx : x < 2 ^ n) (hy : y < 2 ^ m) (e1 : z1 = sgn c n x) (e2 : z2 = sgn d m y) (e3 : z = pwd z1 z2) : (p : Int) = Int.fmod z (2 ^ Int.toNat (n : Int)) := by
  subst h e1 e2 e3
  rw [Int.toNat_natCast]
  have x8 : x < 8 := Nat.lt_of_lt_of_le hx (show 2 ^ n ≤ 2 ^ 3 from Nat.pow_le_pow_right (by decide) n3)
  have y8 : y < 8 := Nat.lt_of_lt_of_le hy (show 2 ^ m ≤ 2 ^ 3 from Nat.pow_le_pow_right (by decide) m3)
  exact chk2F (by omega) (by omega) x8 y8 n1 m1 hx hy
theorem chk3 {l z k : Nat} (h : l = clogN z % 2 ^ k) : (l : Int) = Int.fmod ((clogN z : Nat) : Int) (2 ^ Int.toNat (k : Int)) := by
  subst h
  rw [Int.toNat_natCast, Int.fmod_eq_emod_of_nonneg _ (Int.le_of_lt (Int.pow_pos (by decide)))]
  simp
def cnt9 (j z : Nat) : Nat := ((List.range j).filter fun q => decide (2 ^ q < z)).length
def SInv9 (z : Nat) (news0 : List (Addr × Obj)) (j : Nat) (ys : List Value) (news : List (Addr × Obj)) : Prop := ys.length = cnt9 j z ∧ news = news0
theorem cnt9_t {j z : Nat} (h : (2 : Int) ^ Int.toNat (j : Int) < (z : Int)) : cnt9 (j + 1) z = cnt9 j z + 1 := by
  rw [Int.toNat_natCast] at h
  have h : 2 ^ j < z := by exact_mod_cast h
  simp [cnt9, List.range_succ, List.filter_append, h]
theorem cnt9_f {j z : Nat} (h : ¬ (2 : Int) ^ Int.toNat (j : Int) < (z : Int)) : cnt9 (j + 1) z = cnt9 j z := by
  rw [Int.toNat_natCast] at h
  have h : ¬ 2 ^ j < z := fun k => h (by exact_mod_cast k)
  simp [cnt9, List.range_succ, List.filter_append, h]
theorem clogN_le (z : Nat) : clogN z ≤ 9 := by
  unfold clogN
  exact Nat.le_trans (List.length_filter_le _ _) (by simp)
section
variable {h₀ h' : Heap} {L I C D : Addr} {m : Str → Option Value} {s : Shared} {oI oC : Obj} {tk j z : Nat} {news : List (Addr × Obj)} {ys : List Value} {y : Value}
theorem s_endT (off : LCg.Off3 I C D news) (N : News h₀ L h' ((I, oI) :: (C, oC) :: (D, LCg.lst ys) :: news)) (F : Fr h₀ L h' m) (hz : ys.length = cnt9 j z) (hb : (2 : Int) ^ Int.toNat (j : Int) < (z : Int)) :
    LCg.CompEnd h₀ L m s I oI C oC D (LCg.lst ys) (fun _ => True) (fun y n => SInv9 z news (j + 1) (ys ++ [y]) n) y { s with heap := h', toks := tk } :=
  LCg.CompEnd.intro F N _ (fun _ h => h) off trivial ⟨by rw [List.length_append, hz, cnt9_t hb]; rfl, rfl⟩
theorem s_endF (off : LCg.Off3 I C D news) (N : News h₀ L h' ((I, oI) :: (C, oC) :: (D, LCg.lst ys) :: news)) (F : Fr h₀ L h' m) (hz : ys.length = cnt9 j z) (hb : ¬ (2 : Int) ^ Int.toNat (j : Int) < (z : Int)) :
    LCg.CompEnd h₀ L m s I oI C oC D (LCg.lst ys) (fun _ => True) (fun _ n => SInv9 z news (j + 1) ys n) Value.none { s with heap := h', toks := tk } :=
  LCg.CompEnd.intro F N _ (fun _ h => h) off trivial ⟨by rw [hz, cnt9_f hb], rfl⟩
end
section
variable {prog : Program} {w : World} {A : Around} {E : Value → Shared → Prop} {s : Shared} {h₀ : Heap} {L D : Addr} {news : List (Addr × Obj)} {ys : List Value} {n : Nat} {Q : Value → Shared → Prop}
theorem len_lst (N : News h₀ L s.heap news) (hm : (D, LCg.lst ys) ∈ news) (hn : ys.length = n) (h8 : n ≤ 100) (h : Q (.int (n : Int) (s.toks + 1)) { s with toks := s.toks + 1 + 1 }) :
    wpAny (model prog w) A (call (.builtin "len") [.ref D]) Q E s :=
  KM.len_K N hm (by simp [hn]) (by omega) h
end
inductive RowI (vc W lU lV lP lT lS lL : Addr) (c d : Bool) (wk : Nat) (tw : Tok) (rest : List (Addr × Obj)) (_j : Nat) (m : Str → Option Value) (news : List (Addr × Obj)) : Prop
  | mk (ov : Obj) (cv : Option Value) : (news = (vc, ov) :: rest) → (ov.data = .cell cv) → (m (Str.ofString "words") = some (.ref W)) → (m (Str.ofString "u") = some (.ref lU)) → (m (Str.ofString "v") = some (.ref lV)) → (m (Str.ofString "plain_power") = some (.ref lP)) → (m (Str.ofString "told") = some (.ref lT)) → (m (Str.ofString "both_words") = some (.ref lS)) → (m (Str.ofString "logs") = some (.ref lL)) → (m (Str.ofString "usigned") = some (.bool c)) → (m (Str.ofString "vsigned") = some (.bool d)) → (m (Str.ofString "wide") = some (.int (wk : Int) tw)) → RowI vc W lU lV lP lT lS lL c d wk tw rest _j m news
theorem num_lt8 {us : List NB} {n j : Nat} (h : us.length = n) (h3 : n ≤ 3) : num us j < 8 := by
  have := num_lt us j
  rw [h] at this
  exact Nat.lt_of_lt_of_le this (show 2 ^ n ≤ 2 ^ 3 from Nat.pow_le_pow_right (by decide) h3)
theorem off_I {I vc : Addr} {o o' : Obj} {rest : List (Addr × Obj)} (h : ∀ p ∈ (vc, o) :: rest, p.1 < I) : ∀ p ∈ (vc, o') :: rest, p.1 ≠ I := fun p hp => by
  rcases List.mem_cons.mp hp with rfl | hp
  · exact Nat.ne_of_lt (h (vc, o) (.head _))
  · exact Nat.ne_of_lt (h _ (.tail _ hp))
theorem nb_in {kvs : List (Int × Value)} {gs : List (Int × RF)} {us : List NB} (h : ∀ p ∈ gs, ∃ t, valueAt kvs p.1 = some (.int (wnat p.2 64 : Int) t)) (hu : ∀ x ∈ nets us, x ∈ gs) : ∀ b ∈ us, ∃ t, valueAt kvs b.n = some (.int (wnat b.f 64 : Int) t) := fun _ hb => h _ (hu _ (List.mem_map_of_mem hb))
theorem sgn_bd {c : Bool} {n x : Nat} (h8 : x < 8) (h3 : n ≤ 3) : -8 ≤ sgn c n x ∧ sgn c n x ≤ 8 := by
  have : ∀ c : Bool, ∀ n < 4, ∀ x < 8, -8 ≤ sgn c n x ∧ sgn c n x ≤ 8 := by decide +kernel
  exact this c n (by omega) x h8
section
variable {prog : Program} {w : World} {mg mb : Str → Option Value} {mean : ExcName → Option Value} {loose : List Str} {dp un : Nat} {gd : Option (List Code)} {cn : Str} {cs : Scope} {L a : Addr} {ccd : Value} {cl : List (Str × Addr)} {outer : List Env} {A₀ : Around}
  {base h₀ : Heap} {m : Str → Option Value} {s : Shared} {Q E : Value → Shared → Prop} {news : List (Addr × Obj)}
theorem c_signedB {x n : Nat} {c : Bool} {tx tn : Tok}
    (B : Below A₀ base outer h₀) (F : Fr h₀ L s.heap m) (X : (hd93.heap_1 w.params).In h₀) (N : News h₀ L s.heap news) (T : Top hd93.view_1 loose mean mg mb h₀) (hk : cs.kind = .function)
    (h8 : x < 8) (h1 : 1 ≤ n) (h3 : n ≤ 3) (hd : dp + 20 < recursionLimit) (hu : un + 160 < cLine)
    (ret : ∀ z t h' tk', z = sgn c n x → -8 ≤ z → z ≤ 8 → Fr h₀ L h' m → News h₀ L h' news → Q (.int z t) { s with heap := h', toks := tk' }) :
    wpAny (model prog w) (ktrTop dp un gd cn cs L a ccd cl outer) (call (.ref 306) [.int (x : Int) tx, .int (n : Int) tn, .bool c]) Q E s :=
  c_signed B F X N T hk h1 h3 hd hu fun z t h' tk' e F' N' => ret z t h' tk' e (by rw [e]; exact (sgn_bd h8 h3).1) (by rw [e]; exact (sgn_bd h8 h3).2) F' N'
end
theorem bud_ra : ∀ n ≤ 3, ∀ mm ≤ 3, mm * (n * (6 * n) + 3 * n + n * (6 * n)) ≤ 360 := by decide +kernel
theorem bud_pw : ∀ n ≤ 3, ∀ mm ≤ 3, 3 * n + 3 * n + n + 3 * n + n + n + 2 * n + mm * (n * (6 * n) + 3 * n + n * (6 * n)) ≤ 420 := by decide +kernel
section
variable {prog : Program} {w : World} {mg mb : Str → Option Value} {mean : ExcName → Option Value} {loose : List Str} {dp un : Nat} {gd : Option (List Code)} {cn : Str} {cs : Scope} {L a : Addr} {ccd : Value} {cl : List (Str × Addr)} {outer : List Env} {A₀ : Around}
  {base h₀ : Heap} {m : Str → Option Value} {s : Shared} {Q E : Value → Shared → Prop} {A : NA} {news own nt : List (Addr × Obj)} {gs : List (Int × RF)} {R : Nat}

theorem c_raiseG {lu lv : Addr} {nu nv n mm : Nat} {us vs : List NB}
    (B : Below A₀ base outer h₀) (F : Fr h₀ L s.heap m) (X : (hd93.heap_1 w.params).In h₀) (N : News h₀ L s.heap news) (T : Top hd93.view_1 loose mean mg mb h₀) (hk : cs.kind = .function)
    (Sp : Split news own nt) (Ap : Apart own nt) (NI : Net prog w A nt gs (R + 360)) (hl0 : (lu, listOf (vals us) nu) ∈ own) (hl1 : (lv, listOf (vals vs) nv) ∈ own) (hs : ∀ p ∈ nets us, p ∈ gs) (hv : ∀ p ∈ nets vs, p ∈ gs) (hn : us.length = n) (hm : vs.length = mm) (h1 : 1 ≤ n) (h3 : n ≤ 3) (hm3 : mm ≤ 3)
    (hd : dp + 150 < recursionLimit) (hu : un + 1500 < cLine)
    (ret : ∀ lr nr (rs : List NB) nt' h' tk', Fr h₀ L h' m → News h₀ L h' ((lr, listOf (vals rs) nr) :: (own ++ nt')) → Apart ((lr, listOf (vals rs) nr) :: own) nt' → Net prog w A nt' (nets rs ++ gs) R → rs.length = n → (∀ i, num rs i = num us i ^ num vs i % 2 ^ n) → LCg.Off1 lr own → Q (.ref lr) { s with heap := h', toks := tk' }) :
    wpAny (model prog w) (ktrTop dp un gd cn cs L a ccd cl outer) (call (.ref 169) [.ref A.G, .ref lu, .ref lv]) Q E s :=
  c_raiseN B F X N T hk Sp Ap (NI.le (Nat.add_le_add_left (bud_ra n h3 mm hm3) R)) hl0 hl1 hs hv hn hm h1 h3 hm3 hd hu ret
theorem c_powG {lu lv : Addr} {nu nv n mm : Nat} {us vs : List NB} {c d : Bool}
    (B : Below A₀ base outer h₀) (F : Fr h₀ L s.heap m) (X : (hd93.heap_1 w.params).In h₀) (N : News h₀ L s.heap news) (T : Top hd93.view_1 loose mean mg mb h₀) (hk : cs.kind = .function)
    (Sp : Split news own nt) (Ap : Apart own nt) (NI : Net prog w A nt gs (R + 420)) (hl0 : (lu, listOf (vals us) nu) ∈ own) (hl1 : (lv, listOf (vals vs) nv) ∈ own) (hs : ∀ p ∈ nets us, p ∈ gs) (hv : ∀ p ∈ nets vs, p ∈ gs) (hn : us.length = n) (hm : vs.length = mm) (h1 : 1 ≤ n) (h3 : n ≤ 3) (q1 : 1 ≤ mm) (q3 : mm ≤ 3)
    (hd : dp + 300 < recursionLimit) (hu : un + 2500 < cLine)
    (ret : ∀ lr nr (rs : List NB) nt' h' tk', Fr h₀ L h' m → News h₀ L h' ((lr, listOf (vals rs) nr) :: (own ++ nt')) → Apart ((lr, listOf (vals rs) nr) :: own) nt' → Net prog w A nt' (nets rs ++ gs) R → rs.length = n → (∀ i, num rs i = powN d c n mm (num us i) (num vs i)) → LCg.Off1 lr own → Q (.ref lr) { s with heap := h', toks := tk' }) :
    wpAny (model prog w) (ktrTop dp un gd cn cs L a ccd cl outer) (call (.ref 181) [.ref A.G, .ref lu, .ref lv, .bool c, .bool d]) Q E s :=
  c_powN B F X N T hk Sp Ap (NI.le (by have := bud_pw n h3 mm q3; simp only [Nat.add_assoc] at this ⊢; exact Nat.add_le_add_left this R)) hl0 hl1 hs hv hn hm h1 h3 q1 q3 hd hu ret
end
end Mine93
-- Zst
namespace Mine93
inductive St0 (h₀ : Heap) (L : Addr) (h : Heap) (A : NA) (vc c H : Addr) (hd oD oI oP oM oG odG oC oO oN oc ov : Obj) : Prop
  | mk (rest : List (Addr × Obj)) : rest = [(A.P, oP), (A.M, oM), (A.G, oG), (A.dG, odG), (A.C, oC), (A.O, oO), (A.N, oN), (c, oc), (vc, ov)] → News h₀ L h ((A.dN, oD) :: (A.I, oI) :: (H, hd) :: rest) → (∀ o, ∀ p ∈ (H, o) :: rest, p.1 ≠ A.dN) → (∀ o, ∀ p ∈ (H, o) :: rest, p.1 ≠ A.I) → A.I ≠ A.dN → A.N ≠ A.dN → (A.N, oN) ∈ rest → (∀ p ∈ rest, p.1 ≠ H) → (c, oc) ∈ rest → c ≠ H → St0 h₀ L h A vc c H hd oD oI oP oM oG odG oC oO oN oc ov
theorem st0 {h₀ h : Heap} {L : Addr} {A : NA} {vc c H : Addr} {hd oD oI oP oM oG odG oC oO oN oc ov : Obj}
    (N : News h₀ L h [(H, hd), (A.dN, oD), (A.I, oI), (A.P, oP), (A.M, oM), (A.G, oG), (A.dG, odG), (A.C, oC), (A.O, oO), (A.N, oN), (c, oc), (vc, ov)]) (ad : Addrs A vc c H) : St0 h₀ L h A vc c H hd oD oI oP oM oG odG oC oO oN oc ov := by
  obtain ⟨a1, a2, a3, a4, a5, a6, a7, a8, a9, a10, a11, _, _⟩ := ad
  have cH := a2
  have cD := Nat.lt_trans cH a3
  have cI := Nat.lt_trans (Nat.lt_trans cD a4) a5
  have vH := Nat.lt_trans a1 a2
  have vD := Nat.lt_trans a1 cD
  have vI := Nat.lt_trans a1 cI
  have dI := Nat.lt_trans a4 a5
  have HN := Nat.lt_trans a3 a4
  have HI := Nat.lt_trans HN a5
  have HO := Nat.lt_trans HI a6
  have HC := Nat.lt_trans HO a7
  have HdG := Nat.lt_trans HC a8
  have HG := Nat.lt_trans HdG a9
  have HM := Nat.lt_trans HG a10
  have HP := Nat.lt_trans HM a11
  have DO := Nat.lt_trans dI a6
  have DC := Nat.lt_trans DO a7
  have DdG := Nat.lt_trans DC a8
  have DG := Nat.lt_trans DdG a9
  have DM := Nat.lt_trans DG a10
  have DP := Nat.lt_trans DM a11
  have IC := Nat.lt_trans a6 a7
  have IdG := Nat.lt_trans IC a8
  have IG := Nat.lt_trans IdG a9
  have IM := Nat.lt_trans IG a10
  have IP := Nat.lt_trans IM a11
  refine ⟨_, rfl, n_rot N, fun o => ?_, fun o => ?_, Nat.ne_of_gt dI, Nat.ne_of_gt a4, .tail _ (.tail _ (.tail _ (.tail _ (.tail _ (.tail _ (.head _)))))), ?_, .tail _ (.tail _ (.tail _ (.tail _ (.tail _ (.tail _ (.tail _ (.head _))))))), Nat.ne_of_lt cH⟩
  · exact List.forall_mem_cons.mpr ⟨Nat.ne_of_lt a3, List.forall_mem_cons.mpr ⟨Nat.ne_of_gt DP, List.forall_mem_cons.mpr ⟨Nat.ne_of_gt DM, List.forall_mem_cons.mpr ⟨Nat.ne_of_gt DG, List.forall_mem_cons.mpr ⟨Nat.ne_of_gt DdG, List.forall_mem_cons.mpr ⟨Nat.ne_of_gt DC, List.forall_mem_cons.mpr ⟨Nat.ne_of_gt DO, List.forall_mem_cons.mpr ⟨Nat.ne_of_gt a4, List.forall_mem_cons.mpr ⟨Nat.ne_of_lt cD, List.forall_mem_cons.mpr ⟨Nat.ne_of_lt vD, List.forall_mem_nil _⟩⟩⟩⟩⟩⟩⟩⟩⟩⟩
  · exact List.forall_mem_cons.mpr ⟨Nat.ne_of_lt HI, List.forall_mem_cons.mpr ⟨Nat.ne_of_gt IP, List.forall_mem_cons.mpr ⟨Nat.ne_of_gt IM, List.forall_mem_cons.mpr ⟨Nat.ne_of_gt IG, List.forall_mem_cons.mpr ⟨Nat.ne_of_gt IdG, List.forall_mem_cons.mpr ⟨Nat.ne_of_gt IC, List.forall_mem_cons.mpr ⟨Nat.ne_of_gt a6, List.forall_mem_cons.mpr ⟨Nat.ne_of_lt a5, List.forall_mem_cons.mpr ⟨Nat.ne_of_lt cI, List.forall_mem_cons.mpr ⟨Nat.ne_of_lt vI, List.forall_mem_nil _⟩⟩⟩⟩⟩⟩⟩⟩⟩⟩
  · exact List.forall_mem_cons.mpr ⟨Nat.ne_of_gt HP, List.forall_mem_cons.mpr ⟨Nat.ne_of_gt HM, List.forall_mem_cons.mpr ⟨Nat.ne_of_gt HG, List.forall_mem_cons.mpr ⟨Nat.ne_of_gt HdG, List.forall_mem_cons.mpr ⟨Nat.ne_of_gt HC, List.forall_mem_cons.mpr ⟨Nat.ne_of_gt HO, List.forall_mem_cons.mpr ⟨Nat.ne_of_gt HN, List.forall_mem_cons.mpr ⟨Nat.ne_of_lt cH, List.forall_mem_cons.mpr ⟨Nat.ne_of_lt vH, List.forall_mem_nil _⟩⟩⟩⟩⟩⟩⟩⟩⟩
inductive St1 (h₀ : Heap) (L : Addr) (h : Heap) (H dN I t l2 l1 : Addr) (hd oD oI ot o2 o1 : Obj) (rest : List (Addr × Obj)) : Prop
  | mk (tail : List (Addr × Obj)) : tail = (l1, o1) :: (t, ot) :: (l2, o2) :: (dN, oD) :: (I, oI) :: rest → News h₀ L h ((H, hd) :: tail) → (∀ p ∈ tail, p.1 ≠ H) → (l1, o1) ∈ tail → l1 ≠ H → (∀ p ∈ rest, p ∈ tail) → St1 h₀ L h H dN I t l2 l1 hd oD oI ot o2 o1 rest
theorem st1 {h₀ h : Heap} {L H dN I t l2 l1 : Addr} {hd oD oI ot o2 o1 : Obj} {rest : List (Addr × Obj)} (N : News h₀ L h ((t, ot) :: (l2, o2) :: (l1, o1) :: (dN, oD) :: (I, oI) :: (H, hd) :: rest))
    (f1 : OffD l1 ((dN, oD) :: (I, oI) :: (H, hd) :: rest)) (f2 : OffD l2 ((l1, o1) :: (dN, oD) :: (I, oI) :: (H, hd) :: rest)) (f3 : OffD t ((l2, o2) :: (l1, o1) :: (dN, oD) :: (I, oI) :: (H, hd) :: rest))
    (rD : ∀ o, ∀ p ∈ (H, o) :: rest, p.1 ≠ dN) (rI : ∀ o, ∀ p ∈ (H, o) :: rest, p.1 ≠ I) (rH : ∀ p ∈ rest, p.1 ≠ H) : St1 h₀ L h H dN I t l2 l1 hd oD oI ot o2 o1 rest :=
  have n1 : l1 ≠ H := (f1 _ (.tail _ (.tail _ (.head _)))).symm
  ⟨_, rfl, news_sub N (List.forall_mem_cons.mpr ⟨.tail _ (.tail _ (.tail _ (.tail _ (.tail _ (.head _))))), List.forall_mem_cons.mpr ⟨.tail _ (.tail _ (.head _)), List.forall_mem_cons.mpr ⟨.head _, List.forall_mem_cons.mpr ⟨.tail _ (.head _), List.forall_mem_cons.mpr ⟨.tail _ (.tail _ (.tail _ (.head _))), List.forall_mem_cons.mpr ⟨.tail _ (.tail _ (.tail _ (.tail _ (.head _)))), fun p hp => .tail _ (.tail _ (.tail _ (.tail _ (.tail _ (.tail _ hp)))))⟩⟩⟩⟩⟩⟩),
    List.forall_mem_cons.mpr ⟨n1, List.forall_mem_cons.mpr ⟨(f3 _ (.tail _ (.tail _ (.tail _ (.tail _ (.head _)))))).symm, List.forall_mem_cons.mpr ⟨(f2 _ (.tail _ (.tail _ (.tail _ (.head _))))).symm, List.forall_mem_cons.mpr ⟨(rD hd _ (.head _)).symm, List.forall_mem_cons.mpr ⟨(rI hd _ (.head _)).symm, rH⟩⟩⟩⟩⟩, .head _, n1, fun p hp => .tail _ (.tail _ (.tail _ (.tail _ (.tail _ hp))))⟩
inductive St2 (h₀ : Heap) (L : Addr) (h : Heap) (H dN I t l2 lU : Addr) (hd oD oI ot o2 oU : Obj) (rest : List (Addr × Obj)) : Prop
  | mk (r2 : List (Addr × Obj)) : r2 = (lU, oU) :: (t, ot) :: (l2, o2) :: rest → News h₀ L h ((dN, oD) :: (I, oI) :: (H, hd) :: r2) → (∀ o, ∀ p ∈ (H, o) :: r2, p.1 ≠ dN) → (∀ o, ∀ p ∈ (H, o) :: r2, p.1 ≠ I) → (∀ p ∈ r2, p.1 ≠ H) → (∀ p ∈ rest, p ∈ r2) → St2 h₀ L h H dN I t l2 lU hd oD oI ot o2 oU rest
theorem st2 {h₀ h : Heap} {L H dN I t l2 l1 lU : Addr} {hd hd' hd'' oD oI ot o2 o1 oU : Obj} {rest tail : List (Addr × Obj)} (N : News h₀ L h ((lU, oU) :: (H, hd) :: tail)) (e : tail = (l1, o1) :: (t, ot) :: (l2, o2) :: (dN, oD) :: (I, oI) :: rest)
    (fU : OffD lU ((H, hd') :: tail)) (f2 : OffD l2 ((l1, o1) :: (dN, oD) :: (I, oI) :: (H, hd'') :: rest)) (f3 : OffD t ((l2, o2) :: (l1, o1) :: (dN, oD) :: (I, oI) :: (H, hd'') :: rest))
    (rD : ∀ o, ∀ p ∈ (H, o) :: rest, p.1 ≠ dN) (rI : ∀ o, ∀ p ∈ (H, o) :: rest, p.1 ≠ I) (rH : ∀ p ∈ rest, p.1 ≠ H) : St2 h₀ L h H dN I t l2 lU hd oD oI ot o2 oU rest := by
  subst e
  exact ⟨_, rfl, news_sub N (List.forall_mem_cons.mpr ⟨.tail _ (.tail _ (.tail _ (.tail _ (.tail _ (.head _))))), List.forall_mem_cons.mpr ⟨.tail _ (.tail _ (.tail _ (.tail _ (.tail _ (.tail _ (.head _)))))), List.forall_mem_cons.mpr ⟨.tail _ (.head _), List.forall_mem_cons.mpr ⟨.head _, List.forall_mem_cons.mpr ⟨.tail _ (.tail _ (.tail _ (.head _))), List.forall_mem_cons.mpr ⟨.tail _ (.tail _ (.tail _ (.tail _ (.head _)))), fun p hp => .tail _ (.tail _ (.tail _ (.tail _ (.tail _ (.tail _ (.tail _ hp))))))⟩⟩⟩⟩⟩⟩),
    fun o => List.forall_mem_cons.mpr ⟨rD o _ (.head _), List.forall_mem_cons.mpr ⟨(fU _ (.tail _ (.tail _ (.tail _ (.tail _ (.head _)))))).symm, List.forall_mem_cons.mpr ⟨(f3 _ (.tail _ (.tail _ (.head _)))).symm, List.forall_mem_cons.mpr ⟨(f2 _ (.tail _ (.head _))).symm, fun p hp => rD o p (.tail _ hp)⟩⟩⟩⟩,
    fun o => List.forall_mem_cons.mpr ⟨rI o _ (.head _), List.forall_mem_cons.mpr ⟨(fU _ (.tail _ (.tail _ (.tail _ (.tail _ (.tail _ (.head _))))))).symm, List.forall_mem_cons.mpr ⟨(f3 _ (.tail _ (.tail _ (.tail _ (.head _))))).symm, List.forall_mem_cons.mpr ⟨(f2 _ (.tail _ (.tail _ (.head _)))).symm, fun p hp => rI o p (.tail _ hp)⟩⟩⟩⟩,
    List.forall_mem_cons.mpr ⟨(fU _ (.head _)).symm, List.forall_mem_cons.mpr ⟨(f3 _ (.tail _ (.tail _ (.tail _ (.tail _ (.head _)))))).symm, List.forall_mem_cons.mpr ⟨(f2 _ (.tail _ (.tail _ (.tail _ (.head _))))).symm, rH⟩⟩⟩, fun p hp => .tail _ (.tail _ (.tail _ hp))⟩
inductive StN (prog : Program) (h₀ : Heap) (L : Addr) (h : Heap) (w : World) (A : NA) (H c vc lU lV tu tv la lb : Addr) (hd ov oc oU oV otu otv ola olb oI : Obj) : Prop
  | mk (oth nt : List (Addr × Obj)) : News h₀ L h ((H, hd) :: (vc, ov) :: (oth ++ nt)) → Net prog w A nt gs0 (0 + 200 + 360 + 420) → Apart ((H, hd) :: (vc, ov) :: oth) nt → (lU, oU) ∈ oth → (lV, oV) ∈ oth → (A.I, oI) ∈ oth → (tu, otu) ∈ oth → (tv, otv) ∈ oth → (la, ola) ∈ oth → (lb, olb) ∈ oth → (c, oc) ∈ oth → (∀ p ∈ oth, p.1 ≠ H) → (∀ p ∈ oth, p.1 ≠ vc) → vc ≠ H → StN prog h₀ L h w A H c vc lU lV tu tv la lb hd ov oc oU oV otu otv ola olb oI
theorem ap_cons {x : Addr} {o : Obj} {l nt : List (Addr × Obj)} (h : ∀ q ∈ nt, x ≠ q.1) (k : Apart l nt) : Apart ((x, o) :: l) nt := fun p hp q hq => by
  rcases List.mem_cons.mp hp with rfl | hp
  · exact h q hq
  · exact k p hp q hq
theorem fix_of {P : Addr → Prop} {w : World} {A : NA} {tc : Tok} {oM oP : Obj} (h1 : P A.N) (h2 : P A.dN) (h3 : P A.G) (h4 : P A.dG) (h5 : P A.C) (h6 : P A.M) (h7 : P A.P) : ∀ q ∈ fixed w.params A 8 tc (listOf #[] 0) oM oP [], P q.1 := List.forall_mem_cons.mpr ⟨h1, List.forall_mem_cons.mpr ⟨h2, List.forall_mem_cons.mpr ⟨h3, List.forall_mem_cons.mpr ⟨h4, List.forall_mem_cons.mpr ⟨h5, List.forall_mem_cons.mpr ⟨h6, List.forall_mem_cons.mpr ⟨h7, List.forall_mem_nil _⟩⟩⟩⟩⟩⟩⟩
theorem start_net2 {prog : Program} {w : World} {A : NA} {h₀ h : Heap} {L H c vc lU lV tu tv la lb lu0 lv0 : Addr} {tc : Tok} {hd hd1 hd2 hd3 ov oc oU oV otu otv ola olb oI oI1 oD1 ol1 ol3 oO oM oP : Obj} {rest r2 tail tail3 : List (Addr × Obj)}
    (N : News h₀ L h ((lV, oV) :: (H, hd) :: tail3)) (e3 : tail3 = (lv0, ol3) :: (tv, otv) :: (lb, olb) :: (A.dN, netD w.params A 8 tc) :: (A.I, oI) :: r2) (e2 : r2 = (lU, oU) :: (tu, otu) :: (la, ola) :: rest) (e1 : tail = (lu0, ol1) :: (tu, otu) :: (la, ola) :: (A.dN, oD1) :: (A.I, oI1) :: rest)
    (e0 : rest = [(A.P, oP), (A.M, oM), (A.G, instObj 94 A.dG), (A.dG, gatD w.params A), (A.C, listOf #[] 0), (A.O, oO), (A.N, instObj 259 A.dN), (c, oc), (vc, ov)]) (kp : A.kept = []) (ad : Addrs A vc c H) (hM : oM.IsDictOf (intKind prog w) []) (hP : oP.IsDictOf (intKind prog w) [])
    (fU : OffD lU ((H, hd1) :: tail)) (f2 : OffD la ((lu0, ol1) :: (A.dN, oD1) :: (A.I, oI1) :: (H, hd2) :: rest)) (f3 : OffD tu ((la, ola) :: (lu0, ol1) :: (A.dN, oD1) :: (A.I, oI1) :: (H, hd2) :: rest))
    (fV : OffD lV ((H, hd3) :: tail3)) (f5 : OffD lb ((lv0, ol3) :: (A.dN, netD w.params A 8 tc) :: (A.I, oI) :: (H, hd1) :: r2)) (f6 : OffD tv ((lb, olb) :: (lv0, ol3) :: (A.dN, netD w.params A 8 tc) :: (A.I, oI) :: (H, hd1) :: r2)) :
    StN prog h₀ L h w A H c vc lU lV tu tv la lb hd ov oc oU oV otu otv ola olb oI := by
  subst e3 e2 e1 e0
  obtain ⟨a1, a2, a3, a4, a5, a6, a7, a8, a9, a10, a11, lo1, lo2⟩ := ad
  have HN := Nat.lt_trans a3 a4
  have HI := Nat.lt_trans HN a5
  have HC := Nat.lt_trans (Nat.lt_trans HI a6) a7
  have HdG := Nat.lt_trans HC a8
  have HG := Nat.lt_trans HdG a9
  have HM := Nat.lt_trans HG a10
  have HP := Nat.lt_trans HM a11
  have IC := Nat.lt_trans a6 a7
  have IdG := Nat.lt_trans IC a8
  have IG := Nat.lt_trans IdG a9
  have IM := Nat.lt_trans IG a10
  have IP := Nat.lt_trans IM a11
  have vH := Nat.lt_trans a1 a2
  have vI := Nat.lt_trans vH HI
  have NC := Nat.lt_trans (Nat.lt_trans a5 a6) a7
  have low : ∀ x : Addr, x ≤ H → ∀ q ∈ fixed w.params A 8 tc (listOf #[] 0) oM oP [], x ≠ q.1 := fun x hx => fix_of (P := fun y => x ≠ y) (Nat.ne_of_lt (Nat.lt_of_le_of_lt hx HN)) (Nat.ne_of_lt (Nat.lt_of_le_of_lt hx a3)) (Nat.ne_of_lt (Nat.lt_of_le_of_lt hx HG)) (Nat.ne_of_lt (Nat.lt_of_le_of_lt hx HdG)) (Nat.ne_of_lt (Nat.lt_of_le_of_lt hx HC)) (Nat.ne_of_lt (Nat.lt_of_le_of_lt hx HM)) (Nat.ne_of_lt (Nat.lt_of_le_of_lt hx HP))
  have inI : ∀ q ∈ fixed w.params A 8 tc (listOf #[] 0) oM oP [], A.I ≠ q.1 := fix_of (P := fun y => A.I ≠ y) (Nat.ne_of_gt a5) (Nat.ne_of_gt (Nat.lt_trans a4 a5)) (Nat.ne_of_lt IG) (Nat.ne_of_lt IdG) (Nat.ne_of_lt IC) (Nat.ne_of_lt IM) (Nat.ne_of_lt IP)
  have xU : ∀ q ∈ fixed w.params A 8 tc (listOf #[] 0) oM oP [], lU ≠ q.1 := fix_of (P := fun y => lU ≠ y) (fU (A.N, _) (.tail _ (.tail _ (.tail _ (.tail _ (.tail _ (.tail _ (.tail _ (.tail _ (.tail _ (.tail _ (.tail _ (.tail _ (.head _)))))))))))))).symm (fU (A.dN, _) (.tail _ (.tail _ (.tail _ (.tail _ (.head _)))))).symm (fU (A.G, _) (.tail _ (.tail _ (.tail _ (.tail _ (.tail _ (.tail _ (.tail _ (.tail _ (.head _)))))))))).symm (fU (A.dG, _) (.tail _ (.tail _ (.tail _ (.tail _ (.tail _ (.tail _ (.tail _ (.tail _ (.tail _ (.head _))))))))))).symm (fU (A.C, _) (.tail _ (.tail _ (.tail _ (.tail _ (.tail _ (.tail _ (.tail _ (.tail _ (.tail _ (.tail _ (.head _)))))))))))).symm (fU (A.M, _) (.tail _ (.tail _ (.tail _ (.tail _ (.tail _ (.tail _ (.tail _ (.head _))))))))).symm (fU (A.P, _) (.tail _ (.tail _ (.tail _ (.tail _ (.tail _ (.tail _ (.head _)))))))).symm
  have xV : ∀ q ∈ fixed w.params A 8 tc (listOf #[] 0) oM oP [], lV ≠ q.1 := fix_of (P := fun y => lV ≠ y) (fV (A.N, _) (.tail _ (.tail _ (.tail _ (.tail _ (.tail _ (.tail _ (.tail _ (.tail _ (.tail _ (.tail _ (.tail _ (.tail _ (.tail _ (.tail _ (.tail _ (.head _))))))))))))))))).symm (fV (A.dN, _) (.tail _ (.tail _ (.tail _ (.tail _ (.head _)))))).symm (fV (A.G, _) (.tail _ (.tail _ (.tail _ (.tail _ (.tail _ (.tail _ (.tail _ (.tail _ (.tail _ (.tail _ (.tail _ (.head _))))))))))))).symm (fV (A.dG, _) (.tail _ (.tail _ (.tail _ (.tail _ (.tail _ (.tail _ (.tail _ (.tail _ (.tail _ (.tail _ (.tail _ (.tail _ (.head _)))))))))))))).symm (fV (A.C, _) (.tail _ (.tail _ (.tail _ (.tail _ (.tail _ (.tail _ (.tail _ (.tail _ (.tail _ (.tail _ (.tail _ (.tail _ (.tail _ (.head _))))))))))))))).symm (fV (A.M, _) (.tail _ (.tail _ (.tail _ (.tail _ (.tail _ (.tail _ (.tail _ (.tail _ (.tail _ (.tail _ (.head _)))))))))))).symm (fV (A.P, _) (.tail _ (.tail _ (.tail _ (.tail _ (.tail _ (.tail _ (.tail _ (.tail _ (.tail _ (.head _))))))))))).symm
  have xa : ∀ q ∈ fixed w.params A 8 tc (listOf #[] 0) oM oP [], la ≠ q.1 := fix_of (P := fun y => la ≠ y) (f2 (A.N, _) (.tail _ (.tail _ (.tail _ (.tail _ (.tail _ (.tail _ (.tail _ (.tail _ (.tail _ (.tail _ (.head _)))))))))))).symm (f2 (A.dN, _) (.tail _ (.head _))).symm (f2 (A.G, _) (.tail _ (.tail _ (.tail _ (.tail _ (.tail _ (.tail _ (.head _)))))))).symm (f2 (A.dG, _) (.tail _ (.tail _ (.tail _ (.tail _ (.tail _ (.tail _ (.tail _ (.head _))))))))).symm (f2 (A.C, _) (.tail _ (.tail _ (.tail _ (.tail _ (.tail _ (.tail _ (.tail _ (.tail _ (.head _)))))))))).symm (f2 (A.M, _) (.tail _ (.tail _ (.tail _ (.tail _ (.tail _ (.head _))))))).symm (f2 (A.P, _) (.tail _ (.tail _ (.tail _ (.tail _ (.head _)))))).symm
  have xu : ∀ q ∈ fixed w.params A 8 tc (listOf #[] 0) oM oP [], tu ≠ q.1 := fix_of (P := fun y => tu ≠ y) (f3 (A.N, _) (.tail _ (.tail _ (.tail _ (.tail _ (.tail _ (.tail _ (.tail _ (.tail _ (.tail _ (.tail _ (.tail _ (.head _))))))))))))).symm (f3 (A.dN, _) (.tail _ (.tail _ (.head _)))).symm (f3 (A.G, _) (.tail _ (.tail _ (.tail _ (.tail _ (.tail _ (.tail _ (.tail _ (.head _))))))))).symm (f3 (A.dG, _) (.tail _ (.tail _ (.tail _ (.tail _ (.tail _ (.tail _ (.tail _ (.tail _ (.head _)))))))))).symm (f3 (A.C, _) (.tail _ (.tail _ (.tail _ (.tail _ (.tail _ (.tail _ (.tail _ (.tail _ (.tail _ (.head _))))))))))).symm (f3 (A.M, _) (.tail _ (.tail _ (.tail _ (.tail _ (.tail _ (.tail _ (.head _)))))))).symm (f3 (A.P, _) (.tail _ (.tail _ (.tail _ (.tail _ (.tail _ (.head _))))))).symm
  have xb : ∀ q ∈ fixed w.params A 8 tc (listOf #[] 0) oM oP [], lb ≠ q.1 := fix_of (P := fun y => lb ≠ y) (f5 (A.N, _) (.tail _ (.tail _ (.tail _ (.tail _ (.tail _ (.tail _ (.tail _ (.tail _ (.tail _ (.tail _ (.tail _ (.tail _ (.tail _ (.head _))))))))))))))).symm (f5 (A.dN, _) (.tail _ (.head _))).symm (f5 (A.G, _) (.tail _ (.tail _ (.tail _ (.tail _ (.tail _ (.tail _ (.tail _ (.tail _ (.tail _ (.head _))))))))))).symm (f5 (A.dG, _) (.tail _ (.tail _ (.tail _ (.tail _ (.tail _ (.tail _ (.tail _ (.tail _ (.tail _ (.tail _ (.head _)))))))))))).symm (f5 (A.C, _) (.tail _ (.tail _ (.tail _ (.tail _ (.tail _ (.tail _ (.tail _ (.tail _ (.tail _ (.tail _ (.tail _ (.head _))))))))))))).symm (f5 (A.M, _) (.tail _ (.tail _ (.tail _ (.tail _ (.tail _ (.tail _ (.tail _ (.tail _ (.head _)))))))))).symm (f5 (A.P, _) (.tail _ (.tail _ (.tail _ (.tail _ (.tail _ (.tail _ (.tail _ (.head _))))))))).symm
  have xv : ∀ q ∈ fixed w.params A 8 tc (listOf #[] 0) oM oP [], tv ≠ q.1 := fix_of (P := fun y => tv ≠ y) (f6 (A.N, _) (.tail _ (.tail _ (.tail _ (.tail _ (.tail _ (.tail _ (.tail _ (.tail _ (.tail _ (.tail _ (.tail _ (.tail _ (.tail _ (.tail _ (.head _)))))))))))))))).symm (f6 (A.dN, _) (.tail _ (.tail _ (.head _)))).symm (f6 (A.G, _) (.tail _ (.tail _ (.tail _ (.tail _ (.tail _ (.tail _ (.tail _ (.tail _ (.tail _ (.tail _ (.head _)))))))))))).symm (f6 (A.dG, _) (.tail _ (.tail _ (.tail _ (.tail _ (.tail _ (.tail _ (.tail _ (.tail _ (.tail _ (.tail _ (.tail _ (.head _))))))))))))).symm (f6 (A.C, _) (.tail _ (.tail _ (.tail _ (.tail _ (.tail _ (.tail _ (.tail _ (.tail _ (.tail _ (.tail _ (.tail _ (.tail _ (.head _)))))))))))))).symm (f6 (A.M, _) (.tail _ (.tail _ (.tail _ (.tail _ (.tail _ (.tail _ (.tail _ (.tail _ (.tail _ (.head _))))))))))).symm (f6 (A.P, _) (.tail _ (.tail _ (.tail _ (.tail _ (.tail _ (.tail _ (.tail _ (.tail _ (.head _)))))))))).symm
  refine ⟨[(lU, oU), (lV, oV), (A.I, oI), (tu, otu), (tv, otv), (la, ola), (lb, olb), (c, oc)], fixed w.params A 8 tc (listOf #[] 0) oM oP [], news_sub N (List.forall_mem_cons.mpr ⟨.tail _ (.head _), List.forall_mem_cons.mpr ⟨.tail _ (.tail _ (.tail _ (.tail _ (.tail _ (.tail _ (.tail _ (.tail _ (.tail _ (.tail _ (.tail _ (.tail _ (.tail _ (.tail _ (.tail _ (.tail _ (.tail _ (.tail _ (.head _)))))))))))))))))), List.forall_mem_cons.mpr ⟨.tail _ (.tail _ (.tail _ (.tail _ (.tail _ (.tail _ (.tail _ (.head _))))))), List.forall_mem_cons.mpr ⟨.head _, List.forall_mem_cons.mpr ⟨.tail _ (.tail _ (.tail _ (.tail _ (.tail _ (.tail _ (.head _)))))), List.forall_mem_cons.mpr ⟨.tail _ (.tail _ (.tail _ (.tail _ (.tail _ (.tail _ (.tail _ (.tail _ (.head _)))))))), List.forall_mem_cons.mpr ⟨.tail _ (.tail _ (.tail _ (.head _))), List.forall_mem_cons.mpr ⟨.tail _ (.tail _ (.tail _ (.tail _ (.tail _ (.tail _ (.tail _ (.tail _ (.tail _ (.head _))))))))), List.forall_mem_cons.mpr ⟨.tail _ (.tail _ (.tail _ (.tail _ (.head _)))), List.forall_mem_cons.mpr ⟨.tail _ (.tail _ (.tail _ (.tail _ (.tail _ (.tail _ (.tail _ (.tail _ (.tail _ (.tail _ (.tail _ (.tail _ (.tail _ (.tail _ (.tail _ (.tail _ (.tail _ (.head _))))))))))))))))), List.forall_mem_cons.mpr ⟨.tail _ (.tail _ (.tail _ (.tail _ (.tail _ (.tail _ (.tail _ (.tail _ (.tail _ (.tail _ (.tail _ (.tail _ (.tail _ (.tail _ (.tail _ (.tail _ (.head _)))))))))))))))), List.forall_mem_cons.mpr ⟨.tail _ (.tail _ (.tail _ (.tail _ (.tail _ (.head _))))), List.forall_mem_cons.mpr ⟨.tail _ (.tail _ (.tail _ (.tail _ (.tail _ (.tail _ (.tail _ (.tail _ (.tail _ (.tail _ (.tail _ (.tail _ (.head _)))))))))))), List.forall_mem_cons.mpr ⟨.tail _ (.tail _ (.tail _ (.tail _ (.tail _ (.tail _ (.tail _ (.tail _ (.tail _ (.tail _ (.tail _ (.tail _ (.tail _ (.head _))))))))))))), List.forall_mem_cons.mpr ⟨.tail _ (.tail _ (.tail _ (.tail _ (.tail _ (.tail _ (.tail _ (.tail _ (.tail _ (.tail _ (.tail _ (.tail _ (.tail _ (.tail _ (.head _)))))))))))))), List.forall_mem_cons.mpr ⟨.tail _ (.tail _ (.tail _ (.tail _ (.tail _ (.tail _ (.tail _ (.tail _ (.tail _ (.tail _ (.tail _ (.head _))))))))))), List.forall_mem_cons.mpr ⟨.tail _ (.tail _ (.tail _ (.tail _ (.tail _ (.tail _ (.tail _ (.tail _ (.tail _ (.tail _ (.head _)))))))))), List.forall_mem_nil _⟩⟩⟩⟩⟩⟩⟩⟩⟩⟩⟩⟩⟩⟩⟩⟩⟩), net0 kp ⟨a4, NC, a8, a9, a10, a11, lo1, lo2⟩ hM hP (by decide), ap_cons (low H (Nat.le_refl _)) (ap_cons (low vc (Nat.le_of_lt vH)) (ap_cons xU (ap_cons xV (ap_cons inI (ap_cons xu (ap_cons xv (ap_cons xa (ap_cons xb (ap_cons (low c (Nat.le_of_lt a2)) Apart.nil))))))))),
    .head _, .tail _ (.head _), .tail _ (.tail _ (.head _)), .tail _ (.tail _ (.tail _ (.head _))), .tail _ (.tail _ (.tail _ (.tail _ (.head _)))), .tail _ (.tail _ (.tail _ (.tail _ (.tail _ (.head _))))), .tail _ (.tail _ (.tail _ (.tail _ (.tail _ (.tail _ (.head _)))))), .tail _ (.tail _ (.tail _ (.tail _ (.tail _ (.tail _ (.tail _ (.head _))))))), ?_, ?_, Nat.ne_of_lt vH⟩
  · exact List.forall_mem_cons.mpr ⟨(fU _ (.head _)).symm, List.forall_mem_cons.mpr ⟨(fV _ (.head _)).symm, List.forall_mem_cons.mpr ⟨Nat.ne_of_gt HI, List.forall_mem_cons.mpr ⟨(f3 (H, hd2) (.tail _ (.tail _ (.tail _ (.tail _ (.head _)))))).symm, List.forall_mem_cons.mpr ⟨(f6 (H, hd1) (.tail _ (.tail _ (.tail _ (.tail _ (.head _)))))).symm, List.forall_mem_cons.mpr ⟨(f2 (H, hd2) (.tail _ (.tail _ (.tail _ (.head _))))).symm, List.forall_mem_cons.mpr ⟨(f5 (H, hd1) (.tail _ (.tail _ (.tail _ (.head _))))).symm, List.forall_mem_cons.mpr ⟨Nat.ne_of_lt a2, List.forall_mem_nil _⟩⟩⟩⟩⟩⟩⟩⟩
  · exact List.forall_mem_cons.mpr ⟨(fU (vc, ov) (.tail _ (.tail _ (.tail _ (.tail _ (.tail _ (.tail _ (.tail _ (.tail _ (.tail _ (.tail _ (.tail _ (.tail _ (.tail _ (.tail _ (.head _)))))))))))))))).symm, List.forall_mem_cons.mpr ⟨(fV (vc, ov) (.tail _ (.tail _ (.tail _ (.tail _ (.tail _ (.tail _ (.tail _ (.tail _ (.tail _ (.tail _ (.tail _ (.tail _ (.tail _ (.tail _ (.tail _ (.tail _ (.tail _ (.head _))))))))))))))))))).symm, List.forall_mem_cons.mpr ⟨Nat.ne_of_gt vI, List.forall_mem_cons.mpr ⟨(f3 (vc, ov) (.tail _ (.tail _ (.tail _ (.tail _ (.tail _ (.tail _ (.tail _ (.tail _ (.tail _ (.tail _ (.tail _ (.tail _ (.tail _ (.head _))))))))))))))).symm, List.forall_mem_cons.mpr ⟨(f6 (vc, ov) (.tail _ (.tail _ (.tail _ (.tail _ (.tail _ (.tail _ (.tail _ (.tail _ (.tail _ (.tail _ (.tail _ (.tail _ (.tail _ (.tail _ (.tail _ (.tail _ (.head _)))))))))))))))))).symm, List.forall_mem_cons.mpr ⟨(f2 (vc, ov) (.tail _ (.tail _ (.tail _ (.tail _ (.tail _ (.tail _ (.tail _ (.tail _ (.tail _ (.tail _ (.tail _ (.tail _ (.head _)))))))))))))).symm, List.forall_mem_cons.mpr ⟨(f5 (vc, ov) (.tail _ (.tail _ (.tail _ (.tail _ (.tail _ (.tail _ (.tail _ (.tail _ (.tail _ (.tail _ (.tail _ (.tail _ (.tail _ (.tail _ (.tail _ (.head _))))))))))))))))).symm, List.forall_mem_cons.mpr ⟨Nat.ne_of_gt a1, List.forall_mem_nil _⟩⟩⟩⟩⟩⟩⟩⟩
end Mine93
-- Zm4
namespace Mine93

theorem kwZm40 : True := by
  k_with_none
  (k_with "room" => first | exact Nat.le_of_ble_eq_true rfl | exact room2 (by assumption) (Nat.le_of_ble_eq_true rfl) | exact room3 (by assumption) (Nat.le_of_ble_eq_true rfl) | exact room1 (by assumption))
  (k_with "units" => first | exact Nat.le_of_ble_eq_true rfl | exact room2 (by assumption) (Nat.le_of_ble_eq_true rfl) | exact room3 (by assumption) (Nat.le_of_ble_eq_true rfl) | exact room1 (by assumption))
  (k_with "k_mem" => first | ((with_reducible refine mem_appL ?_); ktr_member) | ((with_reducible refine mem_appR ?_); ktr_member) | ((with_reducible refine mem_raw ?_); ktr_member))
  (k_with "split" => first | exact Split.app | (refine' Split.cons ?kqx; (case kqx => walk_at "split")) | exact Split.nil)
  (k_with "apart" => first | assumption | exact Apart.nil | (refine' Apart.cons ?kqa ?kqb; (case kqa => walk_at "notin"); (case kqb => walk_at "apart")) | exact Apart.sub (by assumption) (by walk_at "sub"))
  (k_with "kind" => first | exact rfl | assumption)
  (k_with "notin" => first | assumption | exact Apart.at (by assumption) (by k_mem) | exact OffM.notI (by assumption) (by walk_at "sub") | exact OffM.notC (by assumption) (by walk_at "sub") | exact OffM.notD (by assumption) (by walk_at "sub") | exact Hi.not (by assumption) (by walk_at "sub") | exact OffD.not (by assumption) (by walk_at "sub") | exact not_of_lt (by walk_at "lts") (by walk_at "sub"))
  (k_with "sub" => ((repeat (first | exact sub_refl | exact sub_appL | exact sub_appR | (refine sub_cons ?kqmem ?_; (case kqmem => k_mem)) | refine sub_tail ?_)); done))
  (k_with "splits" => first | exact Split.app | (refine' Split.cons ?kqx; (case kqx => walk_at "splits")) | exact Split.nil)
  (k_with "call ref" => ((with_reducible show wpAny _ _ (call (Value.ref 219) _) _ _ _); refine hold ?_))
  (k_with "call ref" => ((with_reducible show wpAny _ _ (call (Value.ref 270) _) _ _ _); refine hold ?_))
  (k_with "call ref" => ((with_reducible show wpAny _ _ (call (Value.ref 299) _) _ _ _); refine hold ?_))
  (k_with "call ref" => ((with_reducible show wpAny _ _ (call (Value.ref 181) _) _ _ _); refine hold ?_))
  (k_with "call ref" => ((with_reducible show wpAny _ _ (call (Value.ref 169) _) _ _ _); refine hold ?_))
  (k_with "call ref" => ((with_reducible show wpAny _ _ (call (Value.ref 186) _) _ _ _); refine hold ?_))
  (k_with "call ref" => ((with_reducible show wpAny _ _ (call (Value.ref 289) _) _ _ _); refine hold ?_))
  (k_with "memb" => first | (with_reducible exact List.Mem.head _) | (refine' List.Mem.tail _ ?kqmx; (case kqmx => walk_at "memb")))
  (k_with "subs" => first | exact List.forall_mem_nil _ | (refine' List.forall_mem_cons.mpr ⟨?kqsa, ?kqsb⟩; (case kqsa => walk_at "memb"); (case kqsb => walk_at "subs")))
  (k_with "k_ne" => ((try dsimp only); first | with_reducible assumption | exact Ne.symm (by with_reducible assumption) | exact offA (by with_reducible assumption) (by walk_at "memb") | exact Ne.symm (offA (by with_reducible assumption) (by walk_at "memb")) | omega))
  (k_with "k_all" => first | with_reducible assumption | exact List.forall_mem_nil _ | (refine' List.forall_mem_cons.mpr ⟨?kqa, ?kqb⟩; (case kqa => k_ne); (case kqb => k_all)))
  (k_with "addin" => ((unfold Hold); k_dflt (refine' c_addin ?kqB ?kqF ?kqX ?kqN ?kqT ?kqhk ?kqhr ?kqhrI ?kqhId ?kqhNd ?kqhN ?kqhsz ?kqhd ?kqhu ?_; (case kqB => k_asm); (case kqF => k_asm); (case kqX => k_asm); (case kqN => assumption); (case kqT => k_asm); (case kqhk => walk_at "kind"); (case kqhr => k_all); (case kqhrI => k_all); (case kqhId => k_ne); (case kqhNd => k_ne); (case kqhN => walk_at "memb"); (case kqhsz => exact Nat.le_of_ble_eq_true rfl); (case kqhd => ktr_room); (case kqhu => ktr_units))))
  (k_with "pick" => ((unfold Hold); k_dflt (refine' c_pick ?kqB ?kqF ?kqX ?kqN ?kqT ?kqhk ?kqU ?kqhc ?kqch ?kqhx ?kqh63 ?kqp0 ?kqp1 ?kql1 ?kql5 ?kqhd ?kqhu ?_; (case kqB => k_asm); (case kqF => k_asm); (case kqX => k_asm); (case kqN => k_asm); (case kqT => k_asm); (case kqhk => walk_at "kind"); (case kqU => k_updF); (case kqhc => walk_at "memb"); (case kqch => k_ne); (case kqhx => assumption); (case kqh63 => assumption); (case kqp0 => assumption); (case kqp1 => assumption); (case kql1 => decide); (case kql5 => decide); (case kqhd => ktr_room); (case kqhu => ktr_units))))
  (k_with "some" => ((unfold Hold); k_dflt (refine' c_some (ps := ?kqps) (gs := ?kqgs) ?kqB ?kqF ?kqX ?kqN ?kqT ?kqhk ?kqU ?kqhc ?kqch ?kqhx ?kqh63 ?kqp0 ?kqp1 ?kqhp ?kqhpH ?kqhps ?kqhpg ?kqg0 ?kqg1 ?kqw1 ?kqw3 ?kqhd ?kqhu ?_; (case kqB => k_asm); (case kqF => k_asm); (case kqX => k_asm); (case kqN => k_asm); (case kqT => k_asm); (case kqhk => walk_at "kind"); (case kqU => k_updF); (case kqhc => walk_at "memb"); (case kqch => k_ne); (case kqhx => assumption); (case kqh63 => assumption); (case kqp0 => assumption); (case kqp1 => assumption); (case kqhp => walk_at "memb"); (case kqhpH => k_ne); (case kqhps => rfl); (case kqhd => ktr_room); (case kqhu => ktr_units))))
  (k_with "allp" => first | exact List.forall_mem_nil _ | (refine List.forall_mem_cons.mpr ⟨?_, ?_⟩ <;> walk_at "allp") | k_ne)
  (k_with "binaryOp Add ref ref" => ((with_reducible show wpAny _ _ (binaryOp _ (Value.ref _) (Value.ref _)) _ _ _); k_here; k_dflt (refine' add_nb ?kqF ?kqN ?kqa ?kqb ?kqc ?kqd ?_; (case kqF => k_asm); (case kqN => k_asm); (case kqa => k_mem); (case kqb => k_mem); (case kqc => omega); (case kqd => omega)); intro D' h' F' N' l1))
  (k_with "subscriptTail BinOp Name Add Name Slice ref ref" => (k_here; k_dflt (refine' slice_nb ?kqF ?kqN ?kqa ?kqc ?kqz ?_ ?kqs; (case kqF => k_asm); (case kqN => k_asm); (case kqa => k_mem); (case kqc => (simp only [List.length_append]; omega)); (case kqz => omega); (case kqs => with_unfolding_all rfl)); intro D' h' F' N' l1))
  (k_with "call builtin:len cons nil" => ((with_reducible show wpAny _ _ (call (Value.builtin "len") [Value.ref _]) _ _ _); k_here; k_dflt (refine' len_nb ?kqN ?kqm ?kqhn ?kqh8 ?_; (case kqN => k_asm); (case kqm => k_mem); (case kqhn => assumption); (case kqh8 => omega))))
  (k_with "pyIter ref" => ((with_reducible show wpAny _ _ (pyIter (Value.ref _)) (fun it s₂ => LoopAtV _ _ _ _ _ _ _ _ _ it s₂) _ _); refine hold ?_))
  (k_with "UnrEnd" => (refine hold ?_))
  (k_with "mlook" => first | (with_reducible assumption) | (refine' look_neg ?kqa ?kqb; (case kqb => decide); (case kqa => walk_at "mlook")) | exact rfl)
  (k_with "last eval Name" => (k_here; k_dflt (first
  | (refine' nameX_L ?kqF ?kqv ?_ ?kqa ?kqb; (case kqa => rfl); (case kqb => rfl); (case kqF => k_asm); (case kqv => walk_at "mlook"); k_whole)
  | (refine' ld ?kqk1 ?kqk2 ?_; (case kqk1 => k_asm); (case kqk2 => walk_at "mlook"); k_whole))))
  (k_with "call ref" => ((with_reducible show wpAny _ _ (call (Value.ref 294) _) _ _ _); k_here; k_dflt (refine' c_number ?kqB ?kqF ?kqX ?kqN ?kqT ?kqhk ?kqhW ?kqhdW ?kqhl ?kqhn ?kqh4 ?kqhv ?kqhr ?kqhd ?kqhu ?_; (case kqB => k_asm); (case kqF => k_asm); (case kqX => k_asm); (case kqN => k_asm); (case kqT => k_asm); (case kqhk => walk_at "kind"); (case kqhW => k_mem); (case kqhdW => assumption); (case kqhl => k_mem); (case kqhn => assumption); (case kqh4 => omega); (case kqhv => with_reducible assumption); (case kqhr => assumption); (case kqhd => ktr_room); (case kqhu => ktr_units)); intro t' h' tk' F' N'; (try k_sweep)))
  (k_with "call ref" => ((with_reducible show wpAny _ _ (call (Value.ref 306) _) _ _ _); k_here; k_dflt (refine' c_signedB ?kqB ?kqF ?kqX ?kqN ?kqT ?kqhk ?kqh8 ?kqh1 ?kqh3 ?kqhd ?kqhu ?_; (case kqB => k_asm); (case kqF => k_asm); (case kqX => k_asm); (case kqN => k_asm); (case kqT => k_asm); (case kqhk => walk_at "kind"); (case kqh8 => assumption); (case kqh1 => assumption); (case kqh3 => assumption); (case kqhd => ktr_room); (case kqhu => ktr_units)); intro z' t' h' tk' ez' zl' zu' F' N'; (try k_sweep)))
  (k_with "call ref" => ((with_reducible show wpAny _ _ (call (Value.ref 313) _) _ _ _); k_here; k_dflt (refine' c_powered ?kqB ?kqF ?kqX ?kqN ?kqT ?kqhk ?kqh1 ?kqh3 ?kqq1 ?kqq3 ?kqhd ?kqhu ?_; (case kqB => k_asm); (case kqF => k_asm); (case kqX => k_asm); (case kqN => k_asm); (case kqT => k_asm); (case kqhk => walk_at "kind"); (case kqh1 => assumption); (case kqh3 => assumption); (case kqq1 => assumption); (case kqq3 => assumption); (case kqhd => ktr_room); (case kqhu => ktr_units)); intro z' t' h' tk' ez' F' N'; (try k_sweep)))
  (k_with "binaryOp Pow int int" => (k_here; (with_reducible refine pow_int_small ?kqa ?kqb ?kqc ?_); (case kqa => omega); (case kqb => omega); (case kqc => omega)))
  (k_with "CompSrcT" => (refine hold ?_))
  (k_with "CompEnd" => (refine hold ?_))
  (k_with "eval Name" => ((rename RowMark => mk9); k_here; k_dflt (refine' nameX_L ?kqF ?kqv ?_ ?kqa ?kqb; (case kqa => rfl); (case kqb => rfl); (case kqF => k_asm); (case kqv => walk_at "mlook"); k_whole)))
  (k_with "call builtin:len cons nil" => ((rename CntMark => mk8); (with_reducible show wpAny _ _ (call (Value.builtin "len") [Value.ref _]) _ _ _); k_here; k_dflt (refine' len_lst ?kqN ?kqm ?kqhn ?kqh8 ?_; (case kqN => k_asm); (case kqm => k_mem); (case kqhn => assumption); (case kqh8 => omega))))
  (k_with "GoodW cons ok" => (refine hold ?_))
  trivial
theorem wd_of {r : Int} (h0 : 0 ≤ r) (h3 : r < 3) : ∃ wu : Nat, 1 + r = (wu : Int) ∧ 1 ≤ wu ∧ wu ≤ 3 := ⟨(1 + r).toNat, by omega, by omega, by omega⟩
theorem main : PySem.Challenge.rw_ok0093_01.Holds := by
  refine holds_law wellsaid93 fun said => ?_
  refine holds_open (q := hd93.view_1) (loose := []) (Xt := fun s => xlAt hd93.view_1 [] s && recOk (RowW.records (OpenRow.toRowW (OpenLaw.row PySem.Challenge.rw_ok0093_01))) s) (XP := XL hd93.view_1 []) (Yf := Hook.obs hk93) (Ya := Hook.val hk93) (YP := Hook.says hk93) (N := 3590) hl93 (Hook.of hk93) (Hook.keeps hk93) (fun s e => xl_of s (Bool.and_eq_true_iff.mp e).1) XL.keeps (by rfl) (by rfl) (by rfl) (fun s e => recFacts_of (Bool.and_eq_true_iff.mp e).2) (by rfl) said (by decide +kernel) ⟨rfl, rfl, rfl, rfl, rfl, by decide +kernel⟩ ?hw ?hc
  case hw => w_witness2
  k_fill
  intro w s₀ s₁ mg mb G Y fa o pm cd doc dV kV ho hd hcd hD hmg hg args vals as hpre hlay hrd hwl hlo
  have KX := kIn_of Y
  obtain ⟨X, V⟩ := Ground.X G
  have GL := glob_more (Ground.glob G (by decide +kernel) (by decide +kernel)) V
  refine Ground.open G fun T B D TE TW => guard_noD D (by decide +kernel) ?_
  clear D
  obtain ⟨_, _, M⟩ := bmod_of_top T
  have TA := at_of_top T
  obtain ⟨_, _, he, B0⟩ := based_of_top T rfl hmg ho hd
  have he' : cd = _ := he
  subst he'
  clear he hmg
  wrow_args hpre hlay hrd hwl hlo
  refine enter_call ?_
  w_top on
  refine codeAny_mono ?_ fun _ _ g => GoodW.toG g
  have K0 := below_caller (Top.heap T)
  w_call any ho hd hcd hD T F
  clear hd TA
  k_drop
  all_goals try k_fold
  k_steps
  rename News _ _ _ _ => N1
  rename Fr _ _ _ _ => F1
  obtain ⟨A, H, c, tp, tq, ts, sd, kp, e1, e2, e3, e4, e5, e6, e7, e8, e9, e10, e11, N2⟩ := to_na N1
  rename IntsAre _ (List.take 63 _) => hI1
  rename _ = min 63 _ => hC1
  clear N1
  subst e1 e2 e3 e4 e5 e6 e7 e8 e9 e10 e11
  have Ad : Addrs A _ c H := ⟨by omega, by omega, by omega, by omega, by omega, by omega, by omega, by omega, by omega, by omega, by omega, by assumption, by assumption⟩
  obtain ⟨a1, a2, a3, a4, a5, a6, a7, a8, a9, a10, a11, lo1, lo2⟩ := Ad
  have z0 : (0 : Int) ≤ 0 := Int.le_refl 0
  obtain ⟨ns, hI2, h63⟩ : ∃ ns : List Int, IntsAre _ ns ∧ ns.length ≤ 63 := ⟨_, hI1, by rw [hC1]; exact Nat.min_le_left _ _⟩
  have z1 : (0 : Int) ≤ (ns.length : Int) := Int.natCast_nonneg _
  obtain ⟨rest, e0, N3, rD, rI, nId, nNd, mN, rH, mc, ncH⟩ := st0 N2 ⟨a1, a2, a3, a4, a5, a6, a7, a8, a9, a10, a11, lo1, lo2⟩
  clear N2
  revert F1 N3
  repeat (rename News _ _ _ _ => Nx; clear Nx)
  repeat (rename Fr _ _ _ _ => Nx; clear Nx)
  intro F1 N3
  unfold Hold
  k_dflt (refine' c_addin ?B61 ?F61 ?X61 N3 ?T61 ?hk61 (rD _) (rI _) nId nNd (.tail _ mN) (Nat.le_of_ble_eq_true rfl) ?hd61 ?hu61 ?_; (case B61 => k_asm); (case F61 => k_asm); (case X61 => k_asm); (case T61 => k_asm); (case hk61 => walk_at "kind"); (case hd61 => ktr_room); (case hu61 => ktr_units))
  clear F1 N3
  intro tu la lu0 ea b0 b1 b2 tc1 hh1 tk1 F3 N3 o1 o2 o3
  replace N3 : News _ _ hh1 ((tu, tupOf [.str _ _, .ref la]) :: (la, listOf [Value.int 2 b0, Value.int 3 b1, Value.int 4 b2].toArray ea) :: (lu0, listOf [Value.int 2 b0, Value.int 3 b1, Value.int 4 b2].toArray 3) :: (A.dN, netD _ A 5 tc1) :: (A.I, listOf [Value.ref tu].toArray 1) :: (H, hand c 0 0 sd tp tq ts 0) :: rest) := N3
  obtain ⟨tail, e1, N4, oH, ml, nl, rs⟩ := st1 N3 o1 o2 o3 rD rI rH
  clear N3 o1
  have mc1 := rs _ mc
  clear rs
  k_steps
  unfold Hold
  k_dflt (refine' c_pick ?B62 ?F62 ?X62 N4 ?T62 ?hk62 (UpdF.head oH) (.tail _ mc1) ncH hI2 h63 z0 z1 (by decide) (by decide) ?hd62 ?hu62 ?_; (case B62 => k_asm); (case F62 => k_asm); (case X62 => k_asm); (case T62 => k_asm); (case hk62 => walk_at "kind"); (case hd62 => ktr_room); (case hu62 => ktr_units))
  intro r1 t1 p1 q1 sd1 tp1 tq1 ts1 hh2 tk2 r10 r11 p10 p11 F4 N5
  clear F3 N4
  k_steps
  obtain ⟨wu, hwu, wu1, wu3⟩ : ∃ wu : Nat, 1 + r1 = (wu : Int) ∧ 1 ≤ wu ∧ wu ≤ 3 := wd_of r10 r11
  rw [hwu]
  unfold Hold
  k_dflt (refine' c_some (wd := wu) (ps := [⟨2, b0, inp 0⟩, ⟨3, b1, inp 1⟩, ⟨4, b2, inp 2⟩]) (gs := gs0) ?B63 ?F63 ?X63 N5 ?T63 ?hk63 (UpdF.head oH) (.tail _ mc1) ncH hI2 h63 p10 p11 (.tail _ ml) nl rfl ?pg63 (.head _) (.tail _ (.head _)) wu1 wu3 ?hd63 ?hu63 ?_; (case B63 => k_asm); (case F63 => k_asm); (case X63 => k_asm); (case T63 => k_asm); (case hk63 => walk_at "kind"); (case hd63 => ktr_room); (case hu63 => ktr_units); (case pg63 => show ∀ x ∈ [((2 : Int), inp 0), (3, inp 1), (4, inp 2)], x ∈ gs0; walk_at "subs"))
  intro lU eU us p2 q2 sd2 tp2 tq2 ts2 hh3 tk3 hlu hgu p20 p21 F5 N6 oU
  clear F4 N5 ml nl mc1
  obtain ⟨r2, e2, N7, r2D, r2I, r2H, r2s⟩ := st2 N6 e1 oU o2 o3 rD rI rH
  clear N6 oH
  have mc2 := r2s _ mc
  have mN2 := r2s _ mN
  clear r2s mc mN
  k_steps
  rename News _ _ _ _ => N7
  unfold Hold
  k_dflt (refine' c_addin ?B64 ?F64 ?X64 N7 ?T64 ?hk64 (r2D _) (r2I _) nId nNd (.tail _ mN2) (Nat.le_of_ble_eq_true rfl) ?hd64 ?hu64 ?_; (case B64 => k_asm); (case F64 => k_asm); (case X64 => k_asm); (case T64 => k_asm); (case hk64 => walk_at "kind"); (case hd64 => ktr_room); (case hu64 => ktr_units))
  clear N7
  intro tv lb lv0 eb d0 d1 d2 tc2 hh4 tk4 F7 N8 o4 o5 o6
  replace N8 : News _ _ hh4 ((tv, tupOf [.str _ _, .ref lb]) :: (lb, listOf [Value.int 5 d0, Value.int 6 d1, Value.int 7 d2].toArray eb) :: (lv0, listOf [Value.int 5 d0, Value.int 6 d1, Value.int 7 d2].toArray 3) :: (A.dN, netD _ A 8 tc2) :: (A.I, listOf [Value.ref tu, Value.ref tv].toArray 2) :: (H, hand c p2 q2 sd2 tp2 tq2 ts2 0) :: r2) := N8
  obtain ⟨tail3, e3, N9, oH, ml, nl, rs⟩ := st1 N8 o4 o5 o6 r2D r2I r2H
  clear N8 o4
  have mc3 := rs _ mc2
  clear rs mc2
  k_steps
  unfold Hold
  k_dflt (refine' c_pick ?B65 ?F65 ?X65 N9 ?T65 ?hk65 (UpdF.head oH) (.tail _ mc3) ncH hI2 h63 p20 p21 (by decide) (by decide) ?hd65 ?hu65 ?_; (case B65 => k_asm); (case F65 => k_asm); (case X65 => k_asm); (case T65 => k_asm); (case hk65 => walk_at "kind"); (case hd65 => ktr_room); (case hu65 => ktr_units))
  intro r3 t3 p3 q3 sd3 tp3 tq3 ts3 hh5 tk5 r30 r31 p30 p31 F8 N10
  clear N9
  k_steps
  obtain ⟨wv, hwv, wv1, wv3⟩ : ∃ wv : Nat, 1 + r3 = (wv : Int) ∧ 1 ≤ wv ∧ wv ≤ 3 := wd_of r30 r31
  rw [hwv]
  unfold Hold
  k_dflt (refine' c_some (wd := wv) (ps := [⟨5, d0, inp 3⟩, ⟨6, d1, inp 4⟩, ⟨7, d2, inp 5⟩]) (gs := gs0) ?B66 ?F66 ?X66 N10 ?T66 ?hk66 (UpdF.head oH) (.tail _ mc3) ncH hI2 h63 p30 p31 (.tail _ ml) nl rfl ?pg66 (.head _) (.tail _ (.head _)) wv1 wv3 ?hd66 ?hu66 ?_; (case B66 => k_asm); (case F66 => k_asm); (case X66 => k_asm); (case T66 => k_asm); (case hk66 => walk_at "kind"); (case hd66 => ktr_room); (case hu66 => ktr_units); (case pg66 => show ∀ x ∈ [((5 : Int), inp 3), (6, inp 4), (7, inp 5)], x ∈ gs0; walk_at "subs"))
  intro lV eV vs p4 q4 sd4 tp4 tq4 ts4 hh6 tk6 hlv hgv p40 p41 F9 N11 oV
  clear N10 ml nl
  have nVH : lV ≠ H := (oV _ (.head _)).symm
  k_steps
  rename News _ _ _ _ => N11
  unfold Hold
  k_dflt (refine' c_pick ?B67 ?F67 ?X67 N11 ?T67 ?hk67 (UpdF.tail nVH (UpdF.head oH)) (.tail _ (.tail _ mc3)) ncH hI2 h63 p40 p41 (by decide) (by decide) ?hd67 ?hu67 ?_; (case B67 => k_asm); (case F67 => k_asm); (case X67 => k_asm); (case T67 => k_asm); (case hk67 => walk_at "kind"); (case hd67 => ktr_room); (case hu67 => ktr_units))
  intro r5 t5 p5 q5 sd5 tp5 tq5 ts5 hh7 tk7 r50 r51 p50 p51 F10 N13
  clear N11
  k_steps
  rename News _ _ _ _ => N13
  unfold Hold
  k_dflt (refine' c_pick ?B68 ?F68 ?X68 N13 ?T68 ?hk68 (UpdF.tail nVH (UpdF.head oH)) (.tail _ (.tail _ mc3)) ncH hI2 h63 p50 p51 (by decide) (by decide) ?hd68 ?hu68 ?_; (case B68 => k_asm); (case F68 => k_asm); (case X68 => k_asm); (case T68 => k_asm); (case hk68 => walk_at "kind"); (case hd68 => ktr_room); (case hu68 => ktr_units))
  intro r6 t6 p6 q6 sd6 tp6 tq6 ts6 hh8 tk8 r60 r61 p60 p61 F11 N14
  clear N13 mc3
  k_steps
  rename News _ _ _ _ => N12
  rename Fr _ _ _ _ => F12
  obtain ⟨oth, nt, N13, NI, Ap, mU, mV, mI, mtu, mtv, mla, mlb, mc, nH, nV, nHV⟩ := start_net2 N12 e3 e2 e1 e0 kp ⟨a1, a2, a3, a4, a5, a6, a7, a8, a9, a10, a11, lo1, lo2⟩ (by assumption) (by assumption) oU o2 o3 oV o5 o6
  clear N12 oU oV o2 o3 o5 o6 e0 e1 e2 e3 rD rI rH r2D r2I r2H oH nVH
  unfold Hold
  k_dflt (refine' c_powG (R := 0 + 200 + 360) ?B31 F12 ?X31 N13 ?T31 ?hk31 (Split.cons (Split.cons Split.app)) Ap NI (.tail _ (.tail _ mU)) (.tail _ (.tail _ mV)) hgu hgv hlu hlv wu1 wu3 wv1 wv3 ?hd31 ?hu31 ?_; (case B31 => k_asm); (case X31 => k_asm); (case T31 => k_asm); (case hk31 => walk_at "kind"); (case hd31 => ktr_room); (case hu31 => ktr_units))
  intro lT eT told nt1 hh9 tk9 F13 N14 Ap1 NI1 lnT spT oT
  replace N14 : News _ _ _ ((lT, _) :: (H, _) :: (_, _) :: (oth ++ nt1)) := N14
  k_steps
  rename News _ _ _ _ => N15
  rename Fr _ _ _ _ => F14
  unfold Hold
  k_dflt (refine' c_raiseG (R := 0 + 200) ?B32 F14 ?X32 (n_push N15) ?T32 ?hk32 (Split.cons (Split.cons Split.app)) (ap_push Ap1) NI1 (.tail _ (.tail _ (.tail _ mU))) (.tail _ (.tail _ (.tail _ mV))) (fun p hp => List.mem_append_right _ (hgu p hp)) (fun p hp => List.mem_append_right _ (hgv p hp)) hlu hlv wu1 wu3 wv3 ?hd32 ?hu32 ?_; (case B32 => k_asm); (case X32 => k_asm); (case T32 => k_asm); (case hk32 => walk_at "kind"); (case hd32 => ktr_room); (case hu32 => ktr_units))
  intro lP eP plain nt2 hh10 tk10 F15 N16 Ap2 NI2 lnP spP oP
  replace N16 : News _ _ _ ((lP, _) :: (H, _) :: (_, _) :: (lT, _) :: (oth ++ nt2)) := N16
  k_steps
  rename News _ _ _ _ => N17
  rename Fr _ _ _ _ => F16
  rename ∀ p ∈ _, Prod.fst p < _ => g1
  have apH : ∀ p ∈ oth ++ nt2, p.1 ≠ H := fun p hp => (List.mem_append.mp hp).elim (nH p) fun hq => Ne.symm (Ap2 _ (.tail _ (.head _)) p hq)
  have g1H := Nat.ne_of_gt (g1 _ (.tail _ (.head _)))
  unfold Hold
  k_dflt (refine' c_pick ?B7 F16 ?X7 (n_st3 N17) ?T7 ?hk7 (UpdF.head (List.forall_mem_cons.mpr ⟨nHV, List.forall_mem_cons.mpr ⟨g1H, List.forall_mem_cons.mpr ⟨Ne.symm oP.1, List.forall_mem_cons.mpr ⟨Ne.symm oT.1, apH⟩⟩⟩⟩)) (.tail _ (.tail _ (.tail _ (.tail _ (.tail _ (List.mem_append_left _ mc)))))) (Nat.ne_of_lt a2) hI2 h63 p60 p61 (by decide) (by decide) ?hd7 ?hu7 ?_; (case B7 => k_asm); (case X7 => k_asm); (case T7 => k_asm); (case hk7 => walk_at "kind"); (case hd7 => ktr_room); (case hu7 => ktr_units))
  intro r7 t7 p7 q7 sd7 tp7 tq7 ts7 hh11 tk11 r70 r71 p70 p71 F17 N18
  k_steps
  rename News _ _ _ _ => N20
  rename Fr _ _ _ _ => F19
  rename ∀ p ∈ _, Prod.fst p < _ => g2
  have g2H := Nat.ne_of_gt (g2 _ (.head _))
  unfold Hold
  k_dflt (refine' c_pick ?B8 F19 ?X8 (n_rot N20) ?T8 ?hk8 (UpdF.head (List.forall_mem_cons.mpr ⟨nHV, List.forall_mem_cons.mpr ⟨g2H, List.forall_mem_cons.mpr ⟨g1H, List.forall_mem_cons.mpr ⟨Ne.symm oP.1, List.forall_mem_cons.mpr ⟨Ne.symm oT.1, apH⟩⟩⟩⟩⟩)) (.tail _ (.tail _ (.tail _ (.tail _ (.tail _ (.tail _ (List.mem_append_left _ mc))))))) (Nat.ne_of_lt a2) hI2 h63 p70 p71 (by decide) (by decide) ?hd8 ?hu8 ?_; (case B8 => k_asm); (case X8 => k_asm); (case T8 => k_asm); (case hk8 => walk_at "kind"); (case hd8 => ktr_room); (case hu8 => ktr_units))
  intro r8 t8 p8 q8 sd8 tp8 tq8 ts8 hh12 tk12 r80 r81 p80 p81 F20 N21
  k_steps
  rename News _ _ _ _ => N22
  rename Fr _ _ _ _ => F21
  obtain ⟨wk, hwk, wk1, wk3⟩ : ∃ wk : Nat, 1 + r8 = (wk : Int) ∧ 1 ≤ wk ∧ wk ≤ 3 := ⟨(1 + r8).toNat, by omega, by omega, by omega⟩
  simp only [hwk] at F21 ⊢
  obtain ⟨nb, hnb, nb1, nb4⟩ : ∃ nb, ((us ++ vs).take (1 + r7).toNat).length = nb ∧ 1 ≤ nb ∧ nb ≤ 4 := ⟨_, rfl, by rw [List.length_take, List.length_append]; omega, by rw [List.length_take, List.length_append]; omega⟩
  have hgb : ∀ x ∈ nets ((us ++ vs).take (1 + r7).toNat), x ∈ gs0 := bs_in hgu hgv
  replace N22 := n_drop4 N22
  generalize (us ++ vs).take (1 + r7).toNat = bs at hnb hgb N22
  have Ap2b := ap_three (o := listOf (vals bs) 0) (po' := hand c p8 q8 sd8 tp8 tq8 ts8 0) Ap2 (fun q hq => Nat.ne_of_gt (g2 q (.tail _ (.tail _ (.tail _ (.tail _ (.tail _ (List.mem_append_right _ hq))))))))
  unfold Hold
  k_dflt (refine' c_clogG (k := wk) (R := 0) ?B33 F21 ?X33 N22 ?T33 ?hk33 (Split.cons (Split.cons (Split.cons (Split.cons (Split.cons Split.app))))) Ap2b NI2 (.tail _ (.tail _ (.head _))) (fun p hp => List.mem_append_right _ (List.mem_append_right _ (hgb p hp))) hnb nb1 nb4 wk1 wk3 ?hd33 ?hu33 ?_; (case B33 => k_asm); (case X33 => k_asm); (case T33 => k_asm); (case hk33 => walk_at "kind"); (case hd33 => ktr_room); (case hu33 => ktr_units))
  intro lL eL logs nt3 hh13 tk13 F22 N23 Ap3 NI3 lnL spL oL
  replace N23 : News _ _ _ ((lL, _) :: (H, _) :: (_, _) :: (_, _) :: (lP, _) :: (lT, _) :: (oth ++ nt3)) := N23
  k_steps
  rename News _ _ _ _ => N25
  rename Fr _ _ _ _ => F24
  unfold Hold
  k_dflt (refine' c_words ?B34 F24 ?X34 N25 ?T34 ?hk34 (Split.cons (Split.cons (Split.cons (Split.cons (Split.cons (Split.cons Split.app)))))) Ap3 NI3 (.tail _ (.tail _ (.tail _ (.tail _ (.tail _ (.tail _ (mI))))))) (.tail _ (.tail _ (.tail _ (.tail _ (.tail _ (.tail _ (mtu))))))) (.tail _ (.tail _ (.tail _ (.tail _ (.tail _ (.tail _ (mtv))))))) (.tail _ (.tail _ (.tail _ (.tail _ (.tail _ (.tail _ (mla))))))) (.tail _ (.tail _ (.tail _ (.tail _ (.tail _ (.tail _ (mlb))))))) ?hd34 ?hu34 ?_; (case B34 => k_asm); (case X34 => k_asm); (case T34 => k_asm); (case hk34 => walk_at "kind"); (case hd34 => ktr_room); (case hu34 => ktr_units))
  intro W T oW kvs t9 hh14 tk14 F25 N26 hdW hall
  replace N26 : News _ _ _ ((T, _) :: (W, oW) :: (lL, _) :: (H, _) :: (_, _) :: (_, _) :: (lP, _) :: (lT, _) :: (oth ++ nt3)) := N26
  k_steps
  rename News _ _ _ _ => N27
  rename Fr _ _ _ _ => F26
  rename IsRange _ _ _ _ _ _ _ _ => hr
  obtain ⟨rest, ov, cv, hcv, N28, nT, mW, mL, mS, mP, mTl, mo⟩ := to_rows N27 (by assumption) hdW nV
  replace mU := mo _ mU
  replace mV := mo _ mV
  clear N27
  have hbU : ∀ b ∈ us, ∃ t, valueAt kvs b.n = some (.int (wnat b.f 64 : Int) t) := nb_in hall fun x hx => List.mem_append_right _ (List.mem_append_right _ (List.mem_append_right _ (hgu x hx)))
  have hbV : ∀ b ∈ vs, ∃ t, valueAt kvs b.n = some (.int (wnat b.f 64 : Int) t) := nb_in hall fun x hx => List.mem_append_right _ (List.mem_append_right _ (List.mem_append_right _ (hgv x hx)))
  have hbS : ∀ b ∈ bs, ∃ t, valueAt kvs b.n = some (.int (wnat b.f 64 : Int) t) := nb_in hall fun x hx => List.mem_append_right _ (List.mem_append_right _ (List.mem_append_right _ (hgb x hx)))
  have hbT : ∀ b ∈ told, ∃ t, valueAt kvs b.n = some (.int (wnat b.f 64 : Int) t) := nb_in hall fun x hx => List.mem_append_right _ (List.mem_append_right _ (List.mem_append_left _ hx))
  have hbP : ∀ b ∈ plain, ∃ t, valueAt kvs b.n = some (.int (wnat b.f 64 : Int) t) := nb_in hall fun x hx => List.mem_append_right _ (List.mem_append_left _ hx)
  have hbL : ∀ b ∈ logs, ∃ t, valueAt kvs b.n = some (.int (wnat b.f 64 : Int) t) := nb_in hall fun x hx => List.mem_append_left _ hx
  unfold Hold
  with_unfolding_all refine iter_rangeUnr (n := 64) (by rfl) hr (by decide) (by decide) F26 N28 ?_
  intro I lI
  refine' rr_inv (RowI ?vc W lU lV lP lT ?lS lL (r5 == 1) (r6 == 1) wk ?tw rest) 64 ?step ?fin 64 0 _ _ (Nat.zero_add 64) ?init
  case init => refine' ⟨ov, cv, rfl, hcv, rfl, rfl, rfl, rfl, rfl, rfl, rfl, rfl, rfl, rfl⟩
  case step =>
    rintro j m1 news1 hj ⟨ov1, cv1, rfl, hcv1, k1, k2, k3, k4, k5, k6, k7, k8, k9, k10⟩ t hh tk F30 N30
    rw [Int.zero_add] at F30
    have nlU : num us j < 8 := num_lt8 hlu wu3
    have nlV : num vs j < 8 := num_lt8 hlv wv3
    have hIv := Nat.ne_of_lt (lI _ (.head _))
    dsimp only at hIv
    have mk : RowMark := trivial
    k_steps
    · unfold Hold
      rename _ ≠ _ => hne
      exact absurd (chk1 (spP j)) hne
    · unfold Hold
      rename _ ≠ _ => hne
      rename _ = pwd _ _ => e3
      rename _ = sgn (r6 == 1) _ _ => e2
      rename _ = sgn (r5 == 1) _ _ => e1
      exact absurd (chk2 (spT j) wu1 wu3 wv1 wv3 (num_ltn hlu j) (num_ltn hlv j) e1 e2 e3) hne
    · rename News _ _ _ _ => N31
      rename Fr _ _ _ _ => F31
      rename IsRange _ _ _ _ _ _ _ _ => hr5
      rename RowMark => mk
      clear mk
      unfold Hold
      with_unfolding_all refine LCt.CompSrcT.range (n := 9) (by rfl) F31 N31 hr5 (by decide) (by decide) (by rw [sizeLine_eq]; exact Nat.le_of_ble_eq_true rfl) ?_
      intro gg
      refine' crt_inv (SInv9 (num bs j) ?nw) 9 ?st ?fn 9 0 [] _ (Nat.zero_add _) ?it
      case it => refine' ⟨rfl, rfl⟩
      case st =>
        clear N31 F31 hr5
        rintro r ys news5 hr9 ⟨hys, rfl⟩ v I' oI C oC D' m₂ hh5 tk5 E' hv hC hx2 F6 N6 off6 ne6
        obtain ⟨tv9, rfl⟩ := hv
        rw [Int.zero_add] at hx2
        k_steps
        · unfold Hold
          rename News _ _ _ _ => N7
          rename (2 : Int) ^ _ < _ => hb
          exact s_endT off6 N7 (by k_asm) hys hb
        · unfold Hold
          rename News _ _ _ _ => N7
          rename ¬ _ < _ => hb
          exact s_endF off6 N7 (by k_asm) hys hb
      case fn =>
        rintro ys news5 ⟨hys, rfl⟩
        have hyc : ys.length = clogN (num bs j) := hys
        have h9 := clogN_le (num bs j)
        clear hys
        have mk : RowMark := trivial
        have mk8 : CntMark := trivial
        k_steps
        · unfold Hold
          rename _ ≠ _ => hne
          exact absurd (chk3 (spL j)) hne
        · unfold Hold
          rename News _ _ _ _ => NN
          refine' UnrEnd.intro ?F9 (news_tail NN) _ (fun _ h => h) (off_I lI) ⟨_, _, rfl, ?c9, ?m1, ?m2, ?m3, ?m4, ?m5, ?m6, ?m7, ?m8, ?m9, ?m10⟩
          case F9 => k_asm
          case c9 => assumption
          case m1 => walk_at "mlook"
          case m2 => walk_at "mlook"
          case m3 => walk_at "mlook"
          case m4 => walk_at "mlook"
          case m5 => walk_at "mlook"
          case m6 => walk_at "mlook"
          case m7 => walk_at "mlook"
          case m8 => walk_at "mlook"
          case m9 => walk_at "mlook"
          case m10 => walk_at "mlook"
  case fin =>
    rintro m1 news1 ⟨ov1, cv1, rfl, hcv1, k1, k2, k3, k4, k5, k6, k7, k8, k9, k10⟩ hh tk F40 N40
    k_steps
end Mine93
theorem PySem.Challenge.cw_ok0093_01_holds : PySem.Challenge.rw_ok0093_01.Holds :=
  Mine93.main
