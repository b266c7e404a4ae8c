import PyProof.Rows.All
import Wide.All
import OpenK.AllK
import Wide.FinOn
import PySem.Challenge.RW_tk0106_01
set_option Elab.async false
namespace Mine
structure Hide (p : Prop) : Prop where
  out : p
structure Tg (n : Nat) : Prop where
  one : True
end Mine
section
open PySem PySem.W PyProof.Rows
namespace Mine
/-! texts of whole numbers -/
def dv (l : List Int) : Int := l.foldl (fun a c => 10 * a + c - 48) 0
theorem dv_snoc (l : List Int) (c : Int) : dv (l ++ [c]) = 10 * dv l + c - 48 := by simp [dv]
theorem tx_item {X : PySem.Str} {c : Nat} {r : List Nat} (h : X.cps.toList = c :: r) : Txt.item X 0 = ⟨#[c]⟩ := by
  obtain ⟨⟨l⟩⟩ := X
  simp only at h
  subst h
  simp [Txt.item, Txt.charAt, seqIndex?, PySem.Str.length]
theorem tx_slice {X : PySem.Str} {c : Nat} {r : List Nat} (h : X.cps.toList = c :: r) (hr : r.length ≤ 5) : Txt.slice X (some 1) none = ⟨r.toArray⟩ := by
  obtain ⟨⟨l⟩⟩ := X
  simp only at h
  subst h
  match r, hr with
  | [], _ => rfl
  | [_], _ => simp [Txt.slice, PySem.Str.length, show Builtin.Str.strSliceIndices (some 1) none 1 2 = [1] from by decide +kernel]
  | [_, _], _ => simp [Txt.slice, PySem.Str.length, show Builtin.Str.strSliceIndices (some 1) none 1 3 = [1, 2] from by decide +kernel]
  | [_, _, _], _ => simp [Txt.slice, PySem.Str.length, show Builtin.Str.strSliceIndices (some 1) none 1 4 = [1, 2, 3] from by decide +kernel]
  | [_, _, _, _], _ => simp [Txt.slice, PySem.Str.length, show Builtin.Str.strSliceIndices (some 1) none 1 5 = [1, 2, 3, 4] from by decide +kernel]
  | [_, _, _, _, _], _ => simp [Txt.slice, PySem.Str.length, show Builtin.Str.strSliceIndices (some 1) none 1 6 = [1, 2, 3, 4, 5] from by decide +kernel]
  | _ :: _ :: _ :: _ :: _ :: _ :: _, h => simp at h
theorem occ_minus : (Builtin.Str.occurrences (Str.ofString "+-") ⟨#[45]⟩ 0 (Str.ofString "+-").length 1).isEmpty = false := by decide +kernel
theorem occ_digit (c : Nat) (h : 48 ≤ c ∧ c ≤ 57) : (Builtin.Str.occurrences (Str.ofString "+-") ⟨#[c]⟩ 0 (Str.ofString "+-").length 1).isEmpty = true := by
  have h' : c = 48 ∨ c = 49 ∨ c = 50 ∨ c = 51 ∨ c = 52 ∨ c = 53 ∨ c = 54 ∨ c = 55 ∨ c = 56 ∨ c = 57 := by omega
  rcases h' with rfl | rfl | rfl | rfl | rfl | rfl | rfl | rfl | rfl | rfl <;> decide +kernel
theorem tx_ne {X : PySem.Str} {c : Nat} {r : List Nat} (h : X.cps.toList = c :: r) : (X == Str.ofString "") = false := by
  cases hb : X == Str.ofString "" with
  | false => rfl
  | true =>
    rw [beq_iff_eq.mp hb, show (Str.ofString "").cps.toList = [] from by decide +kernel] at h
    cases h
theorem one_minus {c : Nat} (h : 48 ≤ c ∧ c ≤ 57) : ((⟨#[c]⟩ : PySem.Str) == Str.ofString "-") = false := by
  cases hb : (⟨#[c]⟩ : PySem.Str) == Str.ofString "-" with
  | false => rfl
  | true =>
    have e := congrArg (fun z : PySem.Str => z.cps.toList) (beq_iff_eq.mp hb)
    have e2 : (Str.ofString "-").cps.toList = [45] := by decide
    simp only [e2, List.cons.injEq] at e
    omega
theorem lo_sign {c : Nat} (h : 48 ≤ c ∧ c ≤ 57) : (!decide ((⟨#[c]⟩ : PySem.Str).cps.toList < (Str.ofString "0").cps.toList)) = true := by
  have e2 : (Str.ofString "0").cps.toList = [48] := by decide
  rw [e2]
  simp [List.cons_lt_cons_iff]
  omega
theorem hi_sign {c : Nat} (h : 48 ≤ c ∧ c ≤ 57) : (!decide ((Str.ofString "9").cps.toList < (⟨#[c]⟩ : PySem.Str).cps.toList)) = true := by
  have e2 : (Str.ofString "9").cps.toList = [57] := by decide
  rw [e2]
  simp [List.cons_lt_cons_iff]
  omega
/-- the text of a number from 0 on -/
theorem text_num (m : Nat) : (Str.ofString (toString (m : Int))).cps.toList = (Nat.toDigits 10 m).map Char.toNat := KIN.signs_num m
end Mine
end
section
open PySem PySem.W PyProof.Rows
namespace Mine
theorem code_digit {X : PySem.Str} {pre post : List Int} {n : Nat} (h : KStt.codes X = pre ++ (n : Int) :: post) (hdg : ∀ d ∈ X.cps.toList, 48 ≤ d ∧ d ≤ 57) : 48 ≤ n ∧ n ≤ 57 := by
  have hm : (n : Int) ∈ KStt.codes X := by rw [h]; simp
  obtain ⟨d, hd, e⟩ := List.mem_map.mp hm
  have := hdg d hd
  omega
end Mine
end
section
open PySem PySem.W PyProof.Rows
namespace Mine
theorem dv_from (cs : List Nat) (hd : ∀ c ∈ cs, 48 ≤ c ∧ c ≤ 57) : ∀ a : Nat, (cs.map fun (c : Nat) => (c : Int)).foldl (fun a c => 10 * a + c - 48) (a : Int) = ((cs.foldl (fun acc c => acc * 10 + (c - 48)) a : Nat) : Int) := by
  induction cs with
  | nil => intro a; rfl
  | cons c r ih =>
    intro a
    have hc := hd c (List.mem_cons_self ..)
    rw [List.map_cons, List.foldl_cons, List.foldl_cons, ← ih (fun d h => hd d (List.mem_cons_of_mem _ h))]
    congr 1
    omega
theorem num_digits (m : Nat) : ∀ c ∈ (Nat.toDigits 10 m).map Char.toNat, 48 ≤ c ∧ c ≤ 57 := by
  intro c hc
  obtain ⟨ch, hch, e⟩ := List.mem_map.mp hc
  have r := digit_range (Nat.isDigit_of_mem_toDigits (by decide) (by decide) hch)
  rw [← e]
  exact r
theorem num_value (X : PySem.Str) (m : Nat) (h : X.cps.toList = (Nat.toDigits 10 m).map Char.toNat) : dv (KStt.codes X) = (m : Int) := by
  unfold dv KStt.codes
  rw [h]
  have e := dv_from _ (num_digits m) 0
  rw [Int.natCast_zero] at e
  rw [e]
  exact congrArg Int.ofNat (KIN.val_back m)
theorem text_pos (m : Nat) : (Str.ofString (toString (m : Int))).cps.toList = (Nat.toDigits 10 m).map Char.toNat := KIN.signs_num m
theorem text_neg (m : Nat) : (Str.ofString (toString (Int.negSucc m))).cps.toList = 45 :: (Nat.toDigits 10 (m + 1)).map Char.toNat := by
  rw [signs_ofString]
  show ("-" ++ Nat.repr (m + 1)).toList.map Char.toNat = _
  rw [String.toList_append, List.map_append, Nat.toList_repr]
  rfl
theorem num_len (m : Nat) (h : m < 10000) : ((Nat.toDigits 10 m).map Char.toNat).length ≤ 4 := by
  rw [List.length_map]
  exact toDigits_len_pow (by decide) (by decide) h
theorem num_ne (m : Nat) : (Nat.toDigits 10 m).map Char.toNat ≠ [] := by
  intro e
  have h := toDigits_len_ge 10 m
  rw [List.map_eq_nil_iff.mp e] at h
  exact absurd h (by decide)
theorem pow_small (W : Int) (hW : 5 ≤ W ∧ W ≤ 12) : (2 : Int) ^ (W - 1).toNat ≤ 2048 ∧ 16 ≤ (2 : Int) ^ (W - 1).toNat := by
  have h : W = 5 ∨ W = 6 ∨ W = 7 ∨ W = 8 ∨ W = 9 ∨ W = 10 ∨ W = 11 ∨ W = 12 := by omega
  rcases h with rfl | rfl | rfl | rfl | rfl | rfl | rfl | rfl <;> decide
end Mine
end
section
open PySem PySem.W PySem.Calls PyProof.Rows
namespace Mine
namespace F
theorem slot_wd_get : Slot "wrapper_descriptor" "__get__" "wrapper_descriptor.__get__" := .of (owner := "wrapper_descriptor") (n := "__get__") (by rw [typeLookup_type, builtinLookup_eq_fast]; kernel_rfl) (by decide +kernel) (by decide +kernel) (by decide +kernel)
    (by first | exact .inl (by decide +kernel) | exact .inr (by decide +kernel)) (by rw [isSubtype_type]; kernel_rfl)
theorem entry_wd_get : entryFor table "wrapper_descriptor.__get__" = some Builtin.«wrapper_descriptor.__get__» := entryFor_of_tree (by kernel_rfl)
theorem args_wd_get (a b c : Value) : argsOk "wrapper_descriptor.__get__" ⟨[a, b, c], []⟩ := by unfold argsOk; kernel_rfl
theorem owner_init : ".".intercalate ("Exception.__init__".cutAt '.').dropLast = "Exception" := by decide +kernel
theorem bound_init {M : Model} {A : Around} {E : Value → Shared → Prop} {hp : Heap} {g : Array GenState} {d : Drawn} {t : Nat} {os : OsState} {Q : Unit → Shared → Prop} {e C N : Addr} {oe : Obj} (v : Value)
    {nm q : Str} {bs bm : List Value} {hdct : Bool} {sn : List Str} {sub : List Value} {ab : Bool} {col : Option Bool} {dd : Option Addr} {k0 k1 k2 k3 k5 : Option Value} {newId : String}
    (hC : hp.get? C = some (excClassObj nm q C N bs bm hdct sn sub ab col dd k0 k1 k2 k3 k5 newId)) (he : hp.get? e = some oe) (hcls : oe.cls = .ref C) (h : Q () ⟨hp, g, d, t, os⟩) : wpAny M A (checkBoundCall "Exception.__init__" ⟨[.ref e, v], []⟩) Q E ⟨hp, g, d, t, os⟩ := by
  have r := PySem.F.excCall_Exception.initRow
  have kd := PySem.F.excCall_Exception.initKind
  simp only [checkBoundCall, r, kd]
  rw [if_pos (by decide)]
  have hshort := PySem.F.excCall_Exception.noStar
  repeat (first | (with_reducible refine wpAny_loadPart_at he ?_; rw [hcls]) | with_reducible refine wpAny_loadPart_at hC ?_ | wp_step)
  exact h
theorem quiet_init (a : Args) : (Code.builtin "Exception.__init__" a).quiet = true := Code.quiet_builtin _ (by decide +kernel)
theorem type_init : typeOf (.builtin "Exception.__init__") = pure (.type "wrapper_descriptor") := by kernel_rfl
end F
section
variable {prog : Program} {w : World} {A : Around} {E : Value → Shared → Prop} {h : Heap} {g : Array GenState} {d : Drawn} {t : Nat} {os : OsState}
set_option maxRecDepth 100000 in
theorem e_super_ga {so e : Addr} {D C : Addr} {l₀ l : List Value} {K : Frag} {tk : Tok} {oe : Obj} {Q : Fin → Shared → Prop}
    (hso : h.get? so = some { cls := .type "super", dict := none, data := .fields #[.ref D, .ref e, .ref C], slots := #[] }) (hno : Looks (model prog w) h (opaqueClassAbove (.ref C)) none)
    (hC : Looks (model prog w) h (mroOf (.ref C)) l₀) (hl : (l₀.dropWhile (· != .ref D)).drop 1 = l) (X : K.In h)
    (hf : alongIn K "__init__" l = some (some (.builtin "Exception.__init__"))) (hxC : e ≠ C)
    (he : h.get? e = some oe) (hI : Looks (model prog w) h (isSubtype oe.cls (.type "Exception")) true)
    (hq : Q (.done (.ret (.ref h.objs.size))) ⟨h.push { cls := .type "method-wrapper", data := .fields #[.builtin "Exception.__init__", .ref e] }, g, d, t, os⟩) :
    wpAny (model prog w) A (Builtin.«super.__getattribute__» ⟨[.ref so, .str "__init__" tk], []⟩) Q E ⟨h, g, d, t, os⟩ := by
  have hlk := F.slot_wd_get.lookup
  have hty := F.type_init
  have hne : (Value.ref e == Value.ref C) = false := by simp [hxC]
  have hn : ((Str.ofString "__init__") == ("__class__" : Str)) = false := by decide
  have hdt : ({ cls := .type "super", dict := none, data := .fields #[.ref D, .ref e, .ref C], slots := #[] } : Obj).data = .fields #[.ref D, .ref e, .ref C] := rfl
  have f0 : (#[.ref D, .ref e, .ref C] : Array Value)[0]? = some (.ref D) := rfl
  have f1 : (#[.ref D, .ref e, .ref C] : Array Value)[1]? = some (.ref e) := rfl
  have f2 : (#[.ref D, .ref e, .ref C] : Array Value)[2]? = some (.ref C) := rfl
  unfold Builtin.«super.__getattribute__»
  repeat (first
    | (with_reducible refine wpAny_field hso hdt f0 ?_) | (with_reducible refine wpAny_field hso hdt f1 ?_) | (with_reducible refine wpAny_field hso hdt f2 ?_)
    | (with_reducible refine F.ks_wpAny_notOpaque hno ?_)
    | (with_reducible refine PySem.ks_wpAny_notOpaque hno ?_)
    | (with_reducible refine Looks.at hC ?_; rw [hl])
    | (refine ks_forIn_along X (fun _ _ => rfl) rfl ?_ hf)
    | (with_reducible refine wpAny_of_eq hty ?_)
    | (simp only [hn, hne, Bool.or_false, Bool.false_eq_true, if_false])
    | wp_step
    | dsimp only)
  refine codeAny_call_builtin F.slot_wd_get.plain F.entry_wd_get (F.slot_wd_get.check _ _ _ _ _ _ _ _ hty (F.args_wd_get _ _ _) ?_)
  unfold Builtin.«wrapper_descriptor.__get__»
  repeat (first
    | (rw [F.owner_init]; (with_reducible refine Looks.at hI ?_))
    | wp_step
    | dsimp only)
  all_goals exact hq

set_option maxRecDepth 100000 in
theorem e_getMethod {so e : Addr} {D C : Addr} {l₀ l : List Value} {K : Frag} {oe : Obj} {pl : Sem Bool} {Q : Value × List Value → Shared → Prop}
    (hso : h.get? so = some { cls := .type "super", dict := none, data := .fields #[.ref D, .ref e, .ref C], slots := #[] }) (hno : Looks (model prog w) h (opaqueClassAbove (.ref C)) none)
    (hC : Looks (model prog w) h (mroOf (.ref C)) l₀) (hl : (l₀.dropWhile (· != .ref D)).drop 1 = l) (X : K.In h)
    (hf : alongIn K "__init__" l = some (some (.builtin "Exception.__init__"))) (hxC : e ≠ C)
    (he : h.get? e = some oe) (hI : Looks (model prog w) h (isSubtype oe.cls (.type "Exception")) true)
    (hq : Q (.ref h.objs.size, []) ⟨h.push { cls := .type "method-wrapper", data := .fields #[.builtin "Exception.__init__", .ref e] }, g, d, t + 1, os⟩) :
    wpAny (model prog w) A (getMethod (.ref so) "__init__" pl) Q E ⟨h, g, d, t, os⟩ := by
  have sl := PySem.F.ks_slot_super_ga
  have hT : ∀ k, (⟨h, g, d, k, os⟩ : Shared).TypeIs (.ref so) "super" := fun _ => ⟨_, hso, rfl⟩
  unfold getMethod
  refine wpAny_bind (wpAny_specialOf (hT _) sl.lookup ?_)
  show wpAny _ _ (if (Manifest.canonical "super.__getattribute__" != "object.__getattribute__") = true then _ else _) _ _ _
  rw [if_pos PySem.F.ks_canon_super_ga]
  unfold getAttr getAttrBy
  refine wpAny_bind (wpAny_bind (wpAny_mkText (wpAny_holding (wpAny_bind (wpAny_typeOf (hT _) (wpAny_bind (wpAny_of_eq sl.lookup ?_)))))))
  show wpAny _ _ (getAttrByItsOwn (.ref so) (.str "__init__" t) (.type "super") (.builtin "super.__getattribute__") true false) _ _ _
  unfold getAttrByItsOwn hookBefore callGetattribute boundAndCalled
  refine wpAny_bind (wpAny_of_eq (show (if onTheHeap (.type "super") then typeLookup (.type "super") "__getattr__" else pure none) = pure none from rfl) ?_)
  refine wpAny_bind (wpAny_attempt (wpAny_holding ?_))
  show wpAny _ _ (bindSpecial (.builtin "super.__getattribute__") (.ref so) >>= _) _ _ _
  refine wpAny_bind (wpAny_of_eq (sl.bind _) ?_)
  refine wpAny_mono (Q := fun v s' => v = .ref h.objs.size ∧ s' = ⟨h.push { cls := .type "method-wrapper", data := .fields #[.builtin "Exception.__init__", .ref e] }, g, d, t + 1, os⟩) (E := fun _ _ => False)
    (wpAny_call_entry sl (hT _) PySem.F.ks_entry_super_ga (e_super_ga hso hno hC hl X hf hxC he hI ⟨_, rfl, rfl, rfl⟩) (PySem.F.ks_gaArgs_super _ _)) (fun v s' hv => ?_) fun _ _ z => z.elim
  obtain ⟨rfl, rfl⟩ := hv
  exact wpAny_pure (wpAny_pure hq)

set_option maxRecDepth 100000 in
theorem e_call_mw {nm qn : Str} {bs bm : List Value} {hdct : Bool} {sn : List Str} {sub : List Value} {ab : Bool} {col : Option Bool} {dd : Option Addr} {k0 k1 k2 k3 k5 : Option Value} {newId : String} {C N : Addr}
    (hC : h.get? C = some (excClassObj nm qn C N bs bm hdct sn sub ab col dd k0 k1 k2 k3 k5 newId)) {q e t0 : Addr} {oe : Obj} {vs : Array Value} {v : Value} {Q : Value → Shared → Prop}
    (hq : h.get? q = some { cls := .type "method-wrapper", data := .fields #[.builtin "Exception.__init__", .ref e] }) (he : h.get? e = some oe) (hcls : oe.cls = .ref C) (hd : oe.data = .fields vs) (h0 : vs[0]? = some (.ref t0))
    (k : Q .none ⟨(h.push { cls := .type "tuple", data := .seq #[v] }).update e (Obj.mapFields (·.setIfInBounds 0 (.ref h.objs.size))), g, d, t, os⟩) :
    wpAny (model prog w) A (call (.ref q) [v] []) Q E ⟨h, g, d, t, os⟩ := by
  refine wpAny_call (codeAny_of_tree ?_)
  show wpAny _ A.in1 (callAny (.ref q) ⟨[v], []⟩) _ _ _
  unfold callAny
  refine wpAny_bind (wpAny_load hq ?_)
  show wpAny _ _ (checkBoundCall "Exception.__init__" ⟨[.ref e, v], []⟩ >>= fun _ => again (.builtin "Exception.__init__" ⟨[.ref e, v], []⟩)) _ _ _
  refine wpAny_bind (F.bound_init v hC he hcls (wpAny_pure ⟨F.quiet_init _, codeAny_builtin (PySem.F.excCall_Exception.initEntry) ?_⟩))
  have he₁ := Heap.get?_push_of_some { cls := .type "tuple", data := .seq #[v] } he
  have hsz : 0 < vs.size := (Array.getElem?_eq_some_iff.mp h0).1
  unfold Builtin.«BaseException.__init__»
  repeat (first
    | (with_reducible refine wpAny_loadPart_at he₁ ?_; rw [hd])
    | (with_reducible refine wpAny_load he₁ ?_; rw [hd])
    | rw [h0]
    | (rw [if_pos hsz]; with_reducible refine wpAny_update he₁ ?_)
    | wp_step
    | dsimp only)
  all_goals exact k
end
end Mine
end
section
open PySem PySem.W PySem.Calls PyProof.Rows
namespace Mine
section
variable {prog : Program} {w : World} {A : Around} {E : Value → Shared → Prop} {h : Heap} {g : Array GenState} {d : Drawn} {t : Nat} {os : OsState}
variable {nm qn : Str} {C N x : Addr} {bs bm : List Value} {B sa owner : String} {sn : List Str} {sub : List Value} {ab : Bool} {col : Option Bool} {dd : Option Addr} {k0 k1 k2 k3 k5 : Option Value} {newId : String}
  {mN : Str → Option Value} {name : Str} {v : Value} {vs : Array Value}
set_option maxRecDepth 100000 in
set_option maxHeartbeats 1000000 in
/-- a first attribute laid on an exception of an own class: its dict is made -/
theorem e_set0 {o : Obj} {Q : Unit → Shared → Prop} (SF : StoreFacts B bm sa owner)
    (hC : h.get? C = some (excClassObj nm qn C N bs bm true sn sub ab col dd k0 k1 k2 k3 k5 newId)) (hn : h.Ns N mN) (hns : mN "__setattr__" = none) (hna : mN name = none)
    (hB : typeLookup (.type B) name = pure none) (hx : h.get? x = some o) (hc : o.cls = .ref C) (hd : o.data = .fields vs) (hdn : o.dict = none)
    (hq : ∀ h' tk', h'.get? x = some { o with dict := some h.objs.size } → h'.Ns1 h.objs.size (fun y => if y = name then some v else none) →
      (∀ b o, b ≠ x → h.get? b = some o → h'.get? b = some o) → Q () ⟨h', g, d, tk', os⟩) :
    wpAny (model prog w) A (setAttr (.ref x) name v) Q E ⟨h, g, d, t, os⟩ := by
  have f3 := SF.slot.bind (.ref x)
  have hpass := SF.passes (.ref x)
  unfold setAttr callSpecial? specialOf
  repeat (any_goals (first | assumption | (with_reducible refine wpAny_loadPart_at hx ?_; rw [hc]) | (with_reducible refine wpAny_typeLookup_exc hC hn SF.mro SF.slot.lookup ?_; rw [hns]) | wp_step))
  have key : ∀ (A : Around) (R : Result → Shared → Prop), wpAny (model prog w) A.in1 (Builtin.«object.__setattr__» ⟨[.ref x, .str name t, v], []⟩) (fun fin s' => match fin with | .done f => R (.ok f) s' | .again c' => c'.quiet = true ∧ codeAny (model prog w) A c' R s') (fun e s' => R (.error e) s') ⟨h, g, d, t + 1, os⟩ →
      codeAny (model prog w) A (.call (.builtin sa) ⟨[.ref x, .str name t, v], []⟩) R ⟨h, g, d, t + 1, os⟩ := fun A R k => codeAny_call_builtin SF.slot.plain SF.entry (wpAny_check_sa SF hC hx hc k)
  refine key _ _ ?_
  unfold Builtin.«object.__setattr__»
  repeat (first | rw [refuse_eq] | (rw [refuseLoop_ref, hpass]) | (with_reducible refine wpAny_loadPart_at hx ?_; rw [hc]) | with_reducible refine wpAny_mroOf_exc hC ?_ | (with_reducible refine wpAny_typeLookup_exc hC hn SF.mro hB ?_; rw [hna]) | wp_step)
  rw [hdn, hd]
  have hx₁ : (h.push { cls := .type "dict", data := .dict #[] }).get? x = some o := Heap.get?_push_of_some _ hx
  have hxs : x ≠ h.objs.size := Nat.ne_of_lt (Heap.lt_size hx)
  have hfr : ({ cls := o.cls, dict := some h.objs.size, data := o.data, slots := o.slots } : Obj).isFreed = false := Obj.isFreed_of_fields hd
  show wpAny _ _ (alloc { cls := .type "dict", data := .dict #[] } >>= fun a => update x (fun o => { cls := o.cls, dict := some a, data := o.data, slots := o.slots }) >>= fun _ => pure (some a)) _ _ _
  refine wpAny_bind (wpAny_alloc' (wpAny_bind (wpAny_update' hx₁ (wpAny_pure ?_))))
  have hgd : ((h.push { cls := .type "dict", data := .dict #[] }).update x fun o => { cls := o.cls, dict := some h.objs.size, data := o.data, slots := o.slots }).get? h.objs.size
      = some { cls := .type "dict", data := .dict #[] } := (Heap.get?_update_ne _ _ _ _ hxs.symm).trans (Heap.get?_push_at rfl rfl)
  have hnd : ((h.push { cls := .type "dict", data := .dict #[] }).update x fun o => { cls := o.cls, dict := some h.objs.size, data := o.data, slots := o.slots }).Ns h.objs.size (fun _ => none) :=
    ⟨_, #[], _, hgd, rfl, fun e he => absurd he (by simp), fun _ => rfl⟩
  show wpAny _ _ (Builtin.ObjectAttr.storeInDict h.objs.size (.str name t) name v) _ _ _
  unfold Builtin.ObjectAttr.storeInDict Builtin.ObjectAttr.newKeyGuard
  refine wpAny_bind (wpAny_pure (wpAny_bind (wpAny_nsSet1 (Heap.Ns1.of_empty hnd) fun h' hn' hs => ?_)))
  obtain ⟨oD, esD, epD, hoD, hdD, hcD⟩ := hn'.count (Within.cons name v Within.nil)
  refine wpAny_bind (wpAny_lookBehind hoD (by rw [hdD]; exact pastItsLine_dict (Nat.le_trans hcD (by rw [List.length_cons, List.length_nil, sizeLine_eq]; omega))) ?_)
  repeat (any_goals (first | assumption | wp_step))
  refine hq h' _ ((hs.2 x hxs).trans (Heap.get?_update_self _ hx₁ hfr)) hn' (fun b ob hbx hb => ?_)
  exact (hs.2 b (Nat.ne_of_lt (Heap.lt_size hb))).trans ((Heap.get?_update_ne _ _ _ _ hbx).trans (Heap.get?_push_of_some _ hb))
end
end Mine
end
section
open PySem PySem.W PySem.Calls PyProof.Rows
namespace Mine
abbrev exVs (t : Addr) : Array Value := #[.ref t, .none, .none, .none, .bool false, .none]
abbrev ex0 (t : Addr) : Obj := { cls := .ref 34, data := .fields (exVs t) }
abbrev tupO (vs : List Value) : Obj := { cls := .type "tuple", data := .seq vs.toArray }
abbrev mwO (e : Addr) : Obj := { cls := .type "method-wrapper", data := .fields #[.builtin "Exception.__init__", .ref e] }
theorem ns_some_of {K : Frag} {h : Heap} {N : Addr} {mg : Str → Option Value} {n : Str} {v : Value} (X : K.In h) (G : h.Ns N mg) (e : nsIn K N n = some (some v)) : mg n = some v := by
  obtain ⟨o, es, ep, ho, hd, -, hf⟩ := G
  unfold nsIn at e
  split at e
  · rename_i c d es' n' sl q
    have := X _ _ q
    rw [ho] at this
    cases this
    cases hd
    split at e
    · rename_i en he
      cases e
      rw [← hf]
      unfold nsFind findBy
      rw [← Array.find?_toList, he]
      rfl
    · split at e <;> cases e
  · cases e
/-- what the written part says of the class SnobolError -/
structure ExcCls (K : Frag) : Prop where
  obj : ∃ (nm qn : Str) (bs : List Value) (sn : List Str) (sub : List Value) (ab : Bool) (col : Option Bool) (dd : Option Addr) (k0 k1 k2 k3 k5 : Option Value), K.lookup 34 = some (excClassObj nm qn 34 33 bs [.type "Exception", .type "BaseException", .type "object"] true sn sub ab col dd k0 k1 k2 k3 k5 "Exception.__new__")
  ok : nsOkIn K 33 = true
  init : nsIn K 33 "__init__" = some (some (.ref 31))
  sa : nsIn K 33 "__setattr__" = some none
  ga : nsIn K 33 "__getattribute__" = some none
  gt : nsIn K 33 "__getattr__" = some none
  number : nsIn K 33 "number" = some none
  told : nsIn K 33 "told" = some none
/-- the heap is as it was but for e and what is new -/
def ButE (e dx : Addr) (h h' : Heap) : Prop := ∀ b o, b ≠ e → b ≠ dx → h.get? b = some o → h'.get? b = some o
section
variable {g h h' : Heap} {L e dx : Addr} {m : Str → Option Value} {oe od oe' od' : Obj} {rest : List (Addr × Obj)}
theorem fr_but (F : Fr g L h m) (k : ButE e dx h h') (he : g.get? e = none) (hd : g.get? dx = none) (nL : L ≠ e) (nD : L ≠ dx) : Fr g L h' m := by
  obtain ⟨⟨o, es, ep, ho, r⟩, keep, ab⟩ := F
  refine ⟨⟨o, es, ep, k _ _ nL nD ho, r⟩, fun b o q => k _ _ ?_ ?_ (keep b o q), ab⟩
  · rintro rfl; rw [he] at q; cases q
  · rintro rfl; rw [hd] at q; cases q
theorem news_but (N : News g L h rest) (k : ButE e dx h h') (r : ∀ p ∈ rest, p.1 ≠ e ∧ p.1 ≠ dx) : News g L h' rest := fun p hp => ⟨k _ _ (r p hp).1 (r p hp).2 (N p hp).1, (N p hp).2⟩
end
section
variable {prog : Program} {w : World} {A : Around} {E : Value → Shared → Prop} {s : Shared} {K : Frag} {h₀ : Heap} {L e : Addr} {m : Str → Option Value} {rest : List (Addr × Obj)} {oe : Obj} {tp : Addr}
theorem e_there (KC : ExcCls K) {h : Heap} (X : K.In h) : ∃ (nm qn : Str) (bs : List Value) (sn : List Str) (sub : List Value) (ab : Bool) (col : Option Bool) (dd : Option Addr) (k0 k1 k2 k3 k5 : Option Value) (mN : Str → Option Value), h.get? 34 = some (excClassObj nm qn 34 33 bs [.type "Exception", .type "BaseException", .type "object"] true sn sub ab col dd k0 k1 k2 k3 k5 "Exception.__new__") ∧ h.Ns 33 mN ∧
    mN "__init__" = some (.ref 31) ∧ mN "__setattr__" = none ∧ mN "__getattribute__" = none ∧ mN "__getattr__" = none ∧ mN "number" = none ∧ mN "told" = none := by
  obtain ⟨⟨nm, qn, bs, sn, sub, ab, col, dd, k0, k1, k2, k3, k5, hl⟩, ok, i, sa, ga, gt, nu, tl⟩ := KC
  have hn : h.Ns 33 (h.nsMap 33) := .of_isNs (isNs_of_in X ok)
  exact ⟨nm, qn, bs, sn, sub, ab, col, dd, k0, k1, k2, k3, k5, _, X _ _ hl, hn, ns_some_of X hn i, ns_none_of X hn sa, ns_none_of X hn ga, ns_none_of X hn gt, ns_none_of X hn nu, ns_none_of X hn tl⟩
theorem lk_exc_number : typeLookup (.type "Exception") "number" = pure none := by rw [typeLookup_type, builtinLookup_eq_fast]; kernel_rfl
theorem lk_exc_told : typeLookup (.type "Exception") "told" = pure none := by rw [typeLookup_type, builtinLookup_eq_fast]; kernel_rfl
theorem e_not34 (KC : ExcCls K) {h : Heap} (X : K.In h) {vs : Array Value} (he : h.get? e = some oe) (hd : oe.data = .fields vs) : e ≠ 34 := by
  rintro rfl
  obtain ⟨_, _, _, _, _, _, _, _, _, _, _, _, _, _, h34, _⟩ := e_there KC X
  rw [h34] at he
  cases he
  cases hd
/-- number := v, on the exception without a dict -/
theorem e_setK0 {v : Value} {vs : Array Value} {Q : Unit → Shared → Prop} (KC : ExcCls K) (F : Fr h₀ L s.heap m) (X₀ : K.In h₀) (N : News h₀ L s.heap ((e, oe) :: rest)) (hr : ∀ p ∈ rest, p.1 ≠ e)
    (hc : oe.cls = .ref 34) (hd : oe.data = .fields vs) (hdn : oe.dict = none)
    (hq : ∀ dx od h' tk', (∀ hh : Heap, hh.get? dx = some od → hh.Ns1 dx (fun y => if y = "number" then some v else none)) → Fr h₀ L h' m → News h₀ L h' ((e, { oe with dict := some dx }) :: (dx, od) :: rest) → dx ≠ e → (∀ p ∈ rest, p.1 ≠ dx) → Q () { s with heap := h', toks := tk' }) :
    wpAny (model prog w) A (setAttr (.ref e) "number" v) Q E s := by
  have X := X₀.keeps F.keep
  obtain ⟨h, g, d, tk, os⟩ := s
  obtain ⟨nm, qn, bs, sn, sub, ab, col, dd, k0, k1, k2, k3, k5, mN, h34, hN, -, hsa, -, -, hnu, -⟩ := e_there KC X
  have he := N _ (.head _)
  refine e_set0 PySem.F.store_Exception h34 hN hsa hnu lk_exc_number he.1 hc hd hdn fun h' tk' h1 h2 h3 => ?_
  obtain ⟨od, es, ep, o1, r⟩ := h2
  have nx : ∀ {b : Addr} {o : Obj}, h.get? b = some o → b ≠ h.objs.size := fun q => Nat.ne_of_lt (Heap.lt_size q)
  have bu : ButE e h.objs.size h h' := fun b o ne _ q => h3 b o ne q
  have hg : h₀.get? h.objs.size = none := by
    cases q : h₀.get? h.objs.size with
    | none => rfl
    | some o => exact absurd rfl (nx (F.keep _ _ q))
  have hLs : L ≠ h.objs.size := by obtain ⟨⟨o, _, _, ho, _⟩, _, _⟩ := F; exact nx ho
  refine hq h.objs.size od h' tk' (fun hh e => ⟨od, es, ep, e, r⟩) (fr_but F bu he.2.2 hg he.2.1.symm hLs) (fun p hp => ?_) (nx he.1).symm fun p hp => nx (N p (.tail _ hp)).1
  rcases List.mem_cons.mp hp with rfl | hp
  · exact ⟨h1, he.2⟩
  · rcases List.mem_cons.mp hp with rfl | hp
    · exact ⟨o1, hLs.symm, hg⟩
    · have z := N p (.tail _ hp)
      exact ⟨h3 _ _ (hr p hp) z.1, z.2⟩
/-- told := v, on the exception with its dict -/
theorem e_setK1 {v : Value} {vs : Array Value} {dx : Addr} {od : Obj} {mA : Str → Option Value} {ns : List Str} {Q : Unit → Shared → Prop} (KC : ExcCls K) (F : Fr h₀ L s.heap m) (X₀ : K.In h₀) (N : News h₀ L s.heap ((e, oe) :: (dx, od) :: rest)) (hr : ∀ p ∈ rest, p.1 ≠ e ∧ p.1 ≠ dx)
    (hc : oe.cls = .ref 34) (hd : oe.data = .fields vs) (hdx : oe.dict = some dx) (hne : dx ≠ e) (hod : ∀ hh : Heap, hh.get? dx = some od → hh.Ns1 dx mA) (hw : Within mA ns) (hz : ns.length ≤ 100)
    (hq : ∀ od' h' tk', (∀ hh : Heap, hh.get? dx = some od' → hh.Ns1 dx (fun y => if y = "told" then some v else mA y)) → Fr h₀ L h' m → News h₀ L h' ((e, oe) :: (dx, od') :: rest) → Q () { s with heap := h', toks := tk' }) :
    wpAny (model prog w) A (setAttr (.ref e) "told" v) Q E s := by
  have X := X₀.keeps F.keep
  obtain ⟨h, g, d, tk, os⟩ := s
  obtain ⟨nm, qn, bs, sn, sub, ab, col, dd, k0, k1, k2, k3, k5, mN, h34, hN, -, hsa, -, -, -, htl⟩ := e_there KC X
  have he := N _ (.head _)
  have hdd := N _ (.tail _ (.head _))
  have n34 := e_not34 KC X he.1 hd
  refine store_attr PySem.F.store_Exception h34 hN hsa htl lk_exc_told n34 ⟨oe, he.1, hc, (fun c q => by rw [hd] at q; cases q), .inr ⟨dx, hdx, hne, hod _ hdd.1⟩⟩ (fun h' tk' hI hk hs => ?_) hw (by rw [sizeLine_eq]; omega)
  obtain ⟨o₁, e1, c1, d1, s1, dx1⟩ := hs _ he.1
  obtain ⟨o₂, e2, -, -, hdict⟩ := hI
  rw [e1] at e2
  cases e2
  have hdo := dx1 dx hdx
  have eo : o₁ = oe := by
    obtain ⟨a1, a2, a3, a4⟩ := o₁
    obtain ⟨b1, b2, b3, b4⟩ := oe
    dsimp only at c1 d1 s1 hdo hdx
    subst c1 d1 s1
    rw [hdo, hdx]
  subst eo
  rcases hdict with ⟨z, _⟩ | ⟨d2, z, _, hn1⟩
  · rw [hdx] at z; cases z
  rw [hdx] at z
  cases z
  obtain ⟨od', es, ep, o1, r⟩ := hn1
  have bu : ButE e dx h h' := fun b o ne nd q => hk b o ne (fun o₀ dx' q0 q1 => by rw [he.1] at q0; cases q0; rw [hdx] at q1; cases q1; exact nd) q
  refine hq od' h' tk' (fun hh e => ⟨od', es, ep, e, r⟩) (fr_but F bu he.2.2 hdd.2.2 he.2.1.symm hdd.2.1.symm) fun p hp => ?_
  rcases List.mem_cons.mp hp with rfl | hp
  · exact ⟨e1, he.2⟩
  · rcases List.mem_cons.mp hp with rfl | hp
    · exact ⟨o1, hdd.2⟩
    · have z := N p (.tail _ (.tail _ hp))
      exact ⟨bu _ _ (hr p hp).1 (hr p hp).2 z.1, z.2⟩
/-- super().__init__ of the exception -/
theorem e_methodK {so : Addr} {vs : Array Value} {pl : Sem Bool} {Q : Value × List Value → Shared → Prop} (KC : ExcCls K) (F : Fr h₀ L s.heap m) (X₀ : K.In h₀) (N : News h₀ L s.heap ((so, ks_superObj 34 e 34) :: (e, oe) :: rest)) (ho : nsIn K cStatics "thirdparty.any" = some none)
    (hc : oe.cls = .ref 34) (hd : oe.data = .fields vs) (hm : ks_superIn K 34 34 "__init__" = some (some (.builtin "Exception.__init__")))
    (h : ∀ q h', Fr h₀ L h' m → News h₀ L h' ((q, mwO e) :: (e, oe) :: rest) → Q (.ref q, []) { s with heap := h', toks := s.toks + 1 }) : wpAny (model prog w) A (getMethod (.ref so) "__init__" pl) Q E s := by
  have X : K.In s.heap := X₀.keeps F.keep
  obtain ⟨nm, qn, bs, sn, sub, ab, col, dd, k0, k1, k2, k3, k5, mN, h34, hN, -⟩ := e_there KC X
  obtain ⟨hh, g, d, t, os⟩ := s
  have he := (N _ (.tail _ (.head _))).1
  unfold ks_superIn at hm
  cases hcl : clsIn K 34 with
  | none => rw [hcl] at hm; cases hm
  | some cd =>
    rw [hcl] at hm
    have hsub : Looks (model prog w) hh (isSubtype oe.cls (.type "Exception")) true := by
      rw [hc]
      exact fun A Q E s k q => by
        obtain ⟨h2, g2, d2, t2, os2⟩ := s
        refine wpAny_isSubtype_exc (k _ _ h34) ?_
        have e1 : (Value.ref 34 :: [.type "Exception", .type "BaseException", .type "object"]).contains (.type "Exception") = true := by decide
        rw [e1]
        exact q
    refine e_getMethod (N _ (.head _)).1 (looks_opaque X ho) (l₀ := cd.mro) ?_ rfl X hm (e_not34 KC X he hd) he hsub ?_
    · exact fun A Q E s k q => wpAny_bind ((looks_clsIn X hcl) A _ E s k (wpAny_pure q))
    · obtain ⟨F', N', l'⟩ := ks_newsPush (s := ⟨hh, g, d, t, os⟩) (o := mwO e) F N rfl (Heap.get?_push_at rfl rfl) (fun b o e => Heap.get?_push_of_some _ e)
      exact h _ _ F' (fun p hp => by
        rcases List.mem_cons.mp hp with rfl | hp
        · exact N' _ (.head _)
        · exact N' _ (.tail _ (.tail _ hp)))
theorem keeps_mw {M : Model} {q : Addr} (h : Heap) (x : h.get? q = some (mwO e)) : ∃ k, (k = Keeper.frame ∨ k = Keeper.machine ∨ k = Keeper.boundFrame) ∧ Looks M h (keeperOf (.ref q)) k :=
  ⟨.machine, .inr (.inl rfl), (Looks.ld (part := none) x).andThen .now⟩
theorem e_callWithK {q : Addr} {env : Env} {pos : Pos} {first : List Value} {x : Expr} {Q : Value → Shared → Prop}
    (h : wpAny (model prog w) A (spliced (backTo pos (starEach [x] env))) (fun vs s₁ => s₁.heap.get? q = some (mwO e) ∧ wpAny (model prog w) A (call (.ref q) (first ++ vs)) Q E s₁) E s)
    (he : starEach [x] env = (false, eval x env) :: starEach [] env := by rfl) :
    wpAny (model prog w) A (callWith pos (.ref q) first (backTo pos (starEach [x] env)) []) Q E s := by
  rw [he] at h ⊢
  exact callWith_of (P := fun hp => hp.get? q = some (mwO e)) rfl keeps_mw (evalArgs_plain h)
theorem e_callK {q t0 : Addr} {vs : Array Value} {v : Value} {Q : Value → Shared → Prop} (KC : ExcCls K) (F : Fr h₀ L s.heap m) (X₀ : K.In h₀) (N : News h₀ L s.heap ((q, mwO e) :: (e, oe) :: rest)) (hr : ∀ p ∈ rest, p.1 ≠ e)
    (hc : oe.cls = .ref 34) (hd : oe.data = .fields vs) (h0 : vs[0]? = some (.ref t0))
    (h : ∀ t1 h' oe', Fr h₀ L h' m → oe' = { oe with data := .fields (vs.setIfInBounds 0 (.ref t1)) } → News h₀ L h' ((e, oe') :: (t1, tupO [v]) :: rest) → t1 ≠ e → (∀ p ∈ rest, p.1 ≠ t1) → Q .none { s with heap := h' }) :
    wpAny (model prog w) A (call (.ref q) [v] []) Q E s := by
  have X : K.In s.heap := X₀.keeps F.keep
  obtain ⟨nm, qn, bs, sn, sub, ab, col, dd, k0, k1, k2, k3, k5, mN, h34, hN, -⟩ := e_there KC X
  obtain ⟨hh, g, d, t, os⟩ := s
  have he := N _ (.tail _ (.head _))
  have nx : ∀ {b : Addr} {o : Obj}, hh.get? b = some o → b ≠ hh.objs.size := fun q => Nat.ne_of_lt (Heap.lt_size q)
  have hg : h₀.get? hh.objs.size = none := by
    cases q : h₀.get? hh.objs.size with
    | none => rfl
    | some o => exact absurd rfl (nx (F.keep _ _ q))
  have hLs : L ≠ hh.objs.size := by obtain ⟨⟨o, _, _, ho, _⟩, _, _⟩ := F; exact nx ho
  have hep := Heap.get?_push_of_some { cls := .type "tuple", data := .seq #[v] } he.1
  have k3 : ∀ b o, b ≠ e → hh.get? b = some o → ((hh.push { cls := .type "tuple", data := .seq #[v] }).update e (Obj.mapFields (·.setIfInBounds 0 (.ref hh.objs.size)))).get? b = some o := fun b o ne q =>
    (Heap.get?_update_other _ _ (Ne.symm ne)).trans (Heap.get?_push_of_some _ q)
  refine e_call_mw h34 (N _ (.head _)).1 he.1 hc hd h0 ?_
  refine h hh.objs.size _ { oe with data := .fields (vs.setIfInBounds 0 (.ref hh.objs.size)) } (fr_but (dx := e) F (fun b o ne _ q => k3 b o ne q) he.2.2 he.2.2 he.2.1.symm he.2.1.symm) rfl (fun p hp => ?_) (nx he.1).symm (fun p hp => nx (N p (.tail _ (.tail _ hp))).1)
  rcases List.mem_cons.mp hp with rfl | hp
  · refine ⟨?_, he.2⟩
    have hm : Obj.mapFields (·.setIfInBounds 0 (.ref hh.objs.size)) oe = { oe with data := .fields (vs.setIfInBounds 0 (.ref hh.objs.size)) } := by
      obtain ⟨b1, b2, b3, b4⟩ := oe
      dsimp only at hd
      subst hd
      rfl
    exact (Heap.get?_update_self _ hep (by rw [hm]; rfl)).trans (by rw [hm])
  · rcases List.mem_cons.mp hp with rfl | hp
    · exact ⟨(Heap.get?_update_other _ _ (nx he.1)).trans (Heap.get?_push_at rfl rfl), hLs.symm, hg⟩
    · have z := N p (.tail _ (.tail _ hp))
      exact ⟨k3 _ _ (hr p hp) z.1, z.2⟩
end
end Mine
end
section
open PySem PySem.W PySem.Calls PyProof.Rows
namespace Mine
theorem news_drop3 {g h : Heap} {L : Addr} {a b c : Addr × Obj} {rest : List (Addr × Obj)} (N : News g L h (a :: b :: c :: rest)) : News g L h (a :: b :: rest) := fun p hp => by
  rcases List.mem_cons.mp hp with rfl | hp
  · exact N _ (.head _)
  · rcases List.mem_cons.mp hp with rfl | hp
    · exact N _ (.tail _ (.head _))
    · exact N _ (.tail _ (.tail _ (.tail _ hp)))
theorem ne_cons {t e : Addr} {o : Obj} {rest : List (Addr × Obj)} (nt : t ≠ e) (r : ∀ p ∈ rest, p.1 ≠ e) : ∀ p ∈ (t, o) :: rest, p.1 ≠ e := fun p hp => by
  rcases List.mem_cons.mp hp with rfl | hp
  · exact nt
  · exact r p hp
theorem ne_tail {e : Addr} {c : Addr × Obj} {rest : List (Addr × Obj)} (r : ∀ p ∈ c :: rest, p.1 ≠ e) : ∀ p ∈ rest, p.1 ≠ e := fun p hp => r p (.tail _ hp)
theorem ne_and {e d : Addr} {rest : List (Addr × Obj)} (r : ∀ p ∈ rest, p.1 ≠ e) (r' : ∀ p ∈ rest, p.1 ≠ d) : ∀ p ∈ rest, p.1 ≠ e ∧ p.1 ≠ d := fun p hp => ⟨r p hp, r' p hp⟩
end Mine
end
section
open PySem PySem.W PySem.Calls PyProof.Rows
namespace Mine
/-! what the trees of a raise leave as it is: the dict of every object -/
def DK (h h' : Heap) : Prop := ∀ b o, h.get? b = some o → ∃ o', h'.get? b = some o' ∧ o'.dict = o.dict
theorem DK.refl {h : Heap} : DK h h := fun _ o e => ⟨o, e, rfl⟩
theorem DK.trans {a b c : Heap} (x : DK a b) (y : DK b c) : DK a c := fun p o e =>
  let ⟨o1, e1, d1⟩ := x p o e
  let ⟨o2, e2, d2⟩ := y p o1 e1
  ⟨o2, e2, d2.trans d1⟩
def Kp {α : Type} (t : Sem α) : Prop := ∀ (M : Model) (Γ : Ctx) (Q : α → Pos → Shared → Prop) (E : Value → Pos → Shared → Prop) (p : Pos) (s : Shared),
  Sem.wp M Γ t Q E p s → Sem.wp M Γ t (fun a p' s' => Q a p' s' ∧ DK s.heap s'.heap) (fun e p' s' => E e p' s' ∧ DK s.heap s'.heap) p s
section
variable {α β : Type}
theorem Kp.pure (a : α) : Kp (Pure.pure a : Sem α) := fun M Γ Q E p s h => ⟨h, DK.refl⟩
theorem Kp.unsup (w : String) : Kp (unsupported w : Sem α) := fun M Γ Q E p s h => by
  have h' : False := h
  exact h'.elim
theorem Kp.bind {m : Sem α} {f : α → Sem β} (hm : Kp m) (hf : ∀ a, Kp (f a)) : Kp (m >>= f) := fun M Γ Q E p s h => by
  rw [Sem.wp_bind'] at h ⊢
  refine Sem.wp_mono M Γ m (fun a p' s' x => ?_) (fun e p' s' x => x) p s (hm M Γ _ _ p s h)
  exact Sem.wp_mono M Γ (f a) (fun b p'' s'' y => ⟨y.1, x.2.trans y.2⟩) (fun e p'' s'' y => ⟨y.1, x.2.trans y.2⟩) p' s' (hf a M Γ _ _ p' s' x.1)
theorem Kp.load (a : Addr) : Kp (PySem.load a) := fun M Γ Q E p s h => by
  obtain ⟨o, ho, hq⟩ := h
  exact ⟨o, ho, hq, DK.refl⟩
theorem Kp.stack : Kp PySem.stack := fun M Γ Q E p s h => ⟨h, DK.refl⟩
theorem Kp.alloc (o : Obj) : Kp (PySem.alloc o) := fun M Γ Q E p s h => ⟨h, fun _ o' e => ⟨o', Heap.get?_push_of_some _ e, rfl⟩⟩
theorem Kp.update (a : Addr) (f : Obj → Obj) (hf : ∀ o, (f o).dict = o.dict ∧ (f o).isFreed = o.isFreed) : Kp (PySem.update a f) := fun M Γ Q E p s h => by
  obtain ⟨hs, hq⟩ := h
  refine ⟨hs, hq, fun b o e => ?_⟩
  by_cases q : a = b
  · subst q
    exact ⟨f o, Heap.get?_update_self f e ((hf o).2.trans (Heap.get?_some_iff.mp e).2), (hf o).1⟩
  · exact ⟨o, (Heap.get?_update_other _ _ q).trans e, rfl⟩
end
theorem mapFields_dict (f : Array Value → Array Value) (o : Obj) : (Obj.mapFields f o).dict = o.dict ∧ (Obj.mapFields f o).isFreed = o.isFreed := by
  obtain ⟨c, d, dt, sl⟩ := o
  cases dt <;> exact ⟨rfl, rfl⟩
theorem Kp.field (v : Value) (i : Nat) : Kp (PySem.field v i) := by
  unfold PySem.field fieldsOf
  repeat' (first | exact Kp.pure _ | exact Kp.unsup _ | exact Kp.load _ | refine Kp.bind ?_ (fun _ => ?_) | split)
theorem Kp.setField (v : Value) (i : Nat) (x : Value) : Kp (PySem.setField v i x) := by
  unfold PySem.setField updateField
  repeat' (first | exact Kp.pure _ | exact Kp.unsup _ | exact Kp.load _ | exact Kp.update _ _ (mapFields_dict _) | refine Kp.bind ?_ (fun _ => ?_) | split)
theorem Kp.setFlight (e : Value) (f : Option Addr) : Kp (PySem.setFlight e f) := by
  unfold PySem.setFlight
  repeat' (first | exact Kp.pure _ | exact Kp.unsup _ | exact Kp.field _ _ | exact Kp.setField _ _ _ | refine Kp.bind ?_ (fun _ => ?_) | split)
theorem Kp.readyFrames : ∀ l : List Env, Kp (PySem.readyFrames l)
  | [] => Kp.pure _
  | env :: outer => by
    have ih := Kp.readyFrames outer
    unfold PySem.readyFrames behindIsImport keptBack underTheClaimsCaller
    repeat' (first | exact ih | exact Kp.pure _ | exact Kp.unsup _ | exact Kp.load _ | exact Kp.stack | exact Kp.field _ _ | exact Kp.update _ _ (fun o => ⟨rfl, kts_isFreed o _⟩) | refine Kp.bind ?_ (fun _ => ?_) | split)
theorem Kp.frameOf (env : Env) : Kp (PySem.frameOf env) := by
  unfold PySem.frameOf frameObject frameEnvs
  repeat' (first | exact Kp.readyFrames _ | exact Kp.pure _ | exact Kp.unsup _ | exact Kp.stack | refine Kp.bind ?_ (fun _ => ?_) | split)
theorem Kp.newEntry (a b c d e : Value) (l : List Value) : Kp (EntryCells.newEntry a b c d e l) := by
  unfold EntryCells.newEntry newFields newObj newObjAsIs
  dsimp only
  repeat' (first | exact Kp.pure _ | exact Kp.unsup _ | exact Kp.alloc _ | refine Kp.bind ?_ (fun _ => ?_) | split)
theorem Kp.entryPlaceOf (f : Addr) (b : Bool) : Kp (PySem.entryPlaceOf f b) := by
  unfold PySem.entryPlaceOf
  repeat' (first | exact Kp.pure _ | exact Kp.unsup _ | exact Kp.stack | refine Kp.bind ?_ (fun _ => ?_) | split)
theorem Kp.noteFrame (e : Value) (env : Env) : Kp (PySem.noteFrame e env) := by
  unfold PySem.noteFrame
  repeat' (first | exact Kp.pure _ | exact Kp.unsup _ | exact Kp.field _ _ | exact Kp.setField _ _ _ | exact Kp.frameOf _ | exact Kp.newEntry _ _ _ _ _ _ | exact Kp.entryPlaceOf _ _ | refine Kp.bind ?_ (fun _ => ?_) | split)
theorem Kp.leaving (env : Env) (e : Value) : Kp (PySem.leaving env e) := Kp.bind (Kp.noteFrame _ _) fun _ => Kp.setFlight _ _
theorem wpAny_kp {α : Type} {M : Model} {A : Around} {t : Sem α} {Q : α → Shared → Prop} {E : Value → Shared → Prop} {s : Shared} (k : Kp t)
    (h : wpAny M A t (fun a s' => DK s.heap s'.heap → Q a s') (fun e s' => DK s.heap s'.heap → E e s') s) : wpAny M A t Q E s := fun Γ p hΓ =>
  Sem.wp_mono M Γ t (fun a p' s' x => x.1 x.2) (fun e p' s' x => x.1 x.2) p s (k M Γ _ _ p s (h Γ p hΓ))
end Mine
end
section
open PySem PySem.W PySem.Calls PyProof.Rows
namespace Mine
/-- SnobolError flies: what RaisedS says, and its dict -/
def RaisedD (base G : Heap) (l : List Env) (e dx t : Addr) (tv : Value) (od : Obj) (news : List (Addr × Obj)) (h : Heap) : Prop :=
  RaisedS base G l e (.ref 34) t [tv] ((dx, od) :: news) h ∧ ∃ oe, h.get? e = some oe ∧ oe.dict = some dx
theorem DK.dict {h h' : Heap} {e dx : Addr} (k : DK h h') (x : ∃ oe, h.get? e = some oe ∧ oe.dict = some dx) : ∃ oe, h'.get? e = some oe ∧ oe.dict = some dx := by
  obtain ⟨o, ho, hd⟩ := x
  obtain ⟨o', ho', hd'⟩ := k _ _ ho
  exact ⟨o', ho', hd'.trans hd⟩
section
variable {M : Model} {A : Around} {E : Value → Shared → Prop} {s' : Shared} {base g g₂ : Heap} {outer : List Env} {L a e dx t : Addr} {m : Str → Option Value} {name : Str} {scope : Scope} {cd : Value} {Q : Unit → Shared → Prop} {news : List (Addr × Obj)} {oe od : Obj} {tv : Value}
theorem leave_firstD (K : Below A base outer g) (F : Fr g L s'.heap m) (N : News g L s'.heap ((e, oe) :: (dx, od) :: (t, tupO [tv]) :: news)) (hc : oe.cls = .ref 34) (hdx : oe.dict = some dx) (hd : oe.data = .fields (exVs t))
    (n1 : e ≠ dx) (n2 : e ≠ t) (n3 : dx ≠ t) (hn : ∀ p ∈ news, p.1 ≠ e ∧ p.1 ≠ dx ∧ p.1 ≠ t)
    (hQ : ∀ h', RaisedD base g outer e dx t tv od news h' → g.UpToSlots h' → Q () { s' with heap := h' }) (hk : scope.kind = .function := by rfl) :
    wpAny M (A.deeper (envOf name scope L a cd)) (leaving (envOf name scope L a cd) (.ref e)) Q E s' := by
  have K' := K.push (name := name) (a := a) (cd := cd) F hk
  have Ne := N _ (.head _)
  have Nd := N _ (.tail _ (.head _))
  have Nt := N _ (.tail _ (.tail _ (.head _)))
  have Nr : ∀ p ∈ news, s'.heap.get? p.1 = some p.2 ∧ p.1 ≠ L ∧ g.get? p.1 = none := fun p hp => N p (.tail _ (.tail _ (.tail _ hp)))
  -- no frame is one of the new things
  have nf : ∀ {b : Addr}, b ≠ L → g.get? b = none → b ∉ (envOf name scope L a cd :: outer).filterMap (·.frame) := fun {b} nb hb hm => by
    obtain ⟨env, he, hf⟩ := List.mem_filterMap.mp hm
    rcases List.mem_cons.mp he with rfl | he
    · exact nb (Option.some.inj hf).symm
    · obtain ⟨o, ho, _⟩ := (K.frames.mem (List.mem_filterMap.mpr ⟨env, he, hf⟩)).2
      rw [hb] at ho; cases ho
  generalize hfs : (envOf name scope L a cd :: outer).filterMap (·.frame) = fs at nf
  have hin : ∀ env ∈ (envOf name scope L a cd :: outer), ∀ b, env.frame = some b → b ∈ e :: t :: fs := fun env he b hb => .tail _ (.tail _ (hfs ▸ List.mem_filterMap.mpr ⟨env, he, hb⟩))
  have fb : ∀ {b : Addr}, g.get? b = none → base.get? b = none := fun hb => fresh_of_stays K.stays hb
  have nB : ∀ {b : Addr} {o : Obj}, base.get? b = some o → b ∉ e :: t :: fs := fun {b o} q hm => by
    rcases List.mem_cons.mp hm with rfl | hm
    · rw [fb Ne.2.2] at q; cases q
    · rcases List.mem_cons.mp hm with rfl | hm
      · rw [fb Nt.2.2] at q; cases q
      · rw [(K'.frames.mem (hfs ▸ hm)).1] at q; cases q
  have st : base.StaysIn (hideAll s'.heap (e :: t :: fs)) := fun b o q => hideAll_get _ (K'.stays b o q) (nB q)
  have sg : ∀ b o, g.get? b = some o → b ∉ outer.filterMap (·.frame) → (hideAll s'.heap (e :: t :: fs)).get? b = some o := fun b o q nm => hideAll_get _ (F.keep b o q) fun hm => by
    rcases List.mem_cons.mp hm with rfl | hm
    · rw [Ne.2.2] at q; cases q
    · rcases List.mem_cons.mp hm with rfl | hm
      · rw [Nt.2.2] at q; cases q
      · rcases kts_mem (hfs ▸ hm) with z | z
        · rw [z, kts_self F] at q; cases q
        · exact nm z
  have hl : ∀ q ∈ (dx, od) :: news, (hideAll s'.heap (e :: t :: fs)).get? q.1 = some q.2 ∧ g.get? q.1 = none ∧ base.get? q.1 = none := fun q hq => by
    have z : s'.heap.get? q.1 = some q.2 ∧ q.1 ≠ L ∧ g.get? q.1 = none ∧ q.1 ≠ e ∧ q.1 ≠ t := by
      rcases List.mem_cons.mp hq with rfl | hq
      · exact ⟨Nd.1, Nd.2.1, Nd.2.2, n1.symm, n3⟩
      · exact ⟨(Nr q hq).1, (Nr q hq).2.1, (Nr q hq).2.2, (hn q hq).1, (hn q hq).2.2⟩
    refine ⟨hideAll_get _ z.1 fun hm => ?_, z.2.2.1, fb z.2.2.1⟩
    rcases List.mem_cons.mp hm with h | hm
    · exact z.2.2.2.1 h
    · rcases List.mem_cons.mp hm with h | hm
      · exact z.2.2.2.2 h
      · exact nf z.2.1 z.2.2.1 hm
  have hene : (hideAll s'.heap (e :: t :: fs)).get? e = none := hideAll_none _ (.head _)
  have hent : (hideAll s'.heap (e :: t :: fs)).get? t = none := hideAll_none _ (.tail _ (.head _))
  refine wpAny_kp (Kp.leaving _ _) (wpAny_leaving_firstW (base := hideAll s'.heap (e :: t :: fs)) (a0 := .ref t) K'.stack (funFrames_hide K'.frames hin) rfl Ne.1 (fun b o q => of_hideAll _ q) hene hd rfl rfl fun h' hL dk => ?_)
  obtain ⟨k1, ⟨_, _, k2⟩, k3, k4⟩ := hL
  rw [hc] at k3
  have ht : h'.TupAt t [tv] := Heap.TupAt.of_slots ⟨_, _, Nt.1, rfl, rfl⟩ k4
  exact hQ h' ⟨⟨⟨_, st, sg, hl, ⟨k1, hene, k2, k3⟩, hent⟩, ht⟩, dk.dict ⟨_, Ne.1, hdx⟩⟩ ((Heap.UpToSlots.of_keeps F.keep).trans k4)
theorem leave_onD (K : Below A base outer g) (F : Fr g L g₂ m) (R : RaisedD base g₂ (envOf name scope L a cd :: outer) e dx t tv od news s'.heap) (hsm : g₂.UpToSlots s'.heap)
    (hQ : ∀ h', RaisedD base g outer e dx t tv od news h' → g.UpToSlots h' → Q () { s' with heap := h' }) :
    wpAny M (A.deeper (envOf name scope L a cd)) (leaving (envOf name scope L a cd) (.ref e)) Q E s' :=
  wpAny_kp (Kp.leaving _ _) (leave_onS K F R.1 hsm fun h' R' _ U dk => hQ h' ⟨R', dk.dict R.2⟩ U)
end
end Mine
end
section
open PySem PySem.W PySem.Calls PyProof.Rows
namespace Mine
section
variable {prog : Program} {w : World} {A₀ : Around} {E : Value → Shared → Prop} {s' : Shared} {base g g₀ G : Heap} {outer : List Env} {L a e t dx : Addr} {m : Str → Option Value} {name : Str} {scope : Scope} {cd : Value}
  {tv : Value} {od : Obj} {n : Str} {b₀ : Stmt} {suite : List Stmt} {pos np : Pos} {rest : List ExceptHandler} {Q : Flow → Shared → Prop} {news : List (Addr × Obj)} {KF : Frag}
  {p : Program} {loose : List Str} {mean : ExcName → Option Value} {mg mb : Str → Option Value} {x : Str}
/-- «except SnobolError as n»: caught, with the dict at hand -/
theorem caught_D (R : RaisedD base G (envOf name scope L a cd :: outer) e dx t tv od news s'.heap) (F : Fr g L G m) (K : Below A₀ base outer g) (hsm : G.UpToSlots s'.heap) (XB : KF.In base) (TB : Top p loose mean mg mb base)
    (D : KtsDicts (outer.filterMap (·.frame)) g) (T0 : KtsTurn (outer.filterMap (·.frame)) g₀ g)
    (ex : nsIn KF mainGlobals x = some (some (.ref 34))) (q : ktsIn KF 34 "BaseException" = true)
    (k : ∀ h' g' oe vs tk, KtsTurn (outer.filterMap (·.frame)) g₀ g' → Fr g' L h' (fun y => if y = n then some (.ref e) else m y) → News g' L h' ((e, oe) :: (dx, od) :: news) → oe.cls = .ref 34 → oe.dict = some dx → oe.data = .fields vs → Below A₀ base outer g' → KF.In g' → Top p loose mean mg mb g' → KtsDicts (outer.filterMap (·.frame)) g' →
      wpAny (model prog w) ((A₀.deeper (envOf name scope L a cd)).mark (some (.ref e))) (execs (b₀ :: suite) (envOf name scope L a cd))
        (fun f s₄ => wpAny (model prog w) (A₀.deeper (envOf name scope L a cd)) (do bindName (envOf name scope L a cd) n .none; unbindBehindTheSuite (envOf name scope L a cd) n pos) (fun _ s₅ => Q f s₅) E s₄)
        (AsSuiteRaised (model prog w) ((A₀.deeper (envOf name scope L a cd)).mark (some (.ref e))) (envOf name scope L a cd) n pos (notedBy (model prog w) ((A₀.deeper (envOf name scope L a cd)).mark (some (.ref e))) (envOf name scope L a cd) (cameBackBy (model prog w) (A₀.deeper (envOf name scope L a cd)) (envOf name scope L a cd) E)))
        { s' with heap := h', toks := tk })
    (hk : scope.kind = .function := by rfl) (hlo : (envOf name scope L a cd).kindOf n = some .local := by rfl) (hx : (envOf name scope L a cd).kindOf x = some .globalImplicit := by rfl) (hd : (x == ("__debug__" : Str)) = false := by decide) :
    wpAny (model prog w) (A₀.deeper (envOf name scope L a cd)) (noteFrame (.ref e) (envOf name scope L a cd))
      (fun _ s₂ => wpAny (model prog w) (A₀.deeper (envOf name scope L a cd)) (setFlight (.ref e) none) (fun _ s₃ =>
        wpAny (model prog w) (A₀.deeper (envOf name scope L a cd)) (handleBy (.ref e) (envOf name scope L a cd) (.ExceptHandler (some (.Name x np)) (some n) (b₀ :: suite) pos :: rest)) Q E s₃) E s₂) E s' := by
  obtain ⟨⟨⟨B, hB, hBG, hl, hfl, hnew⟩, htup⟩, hdict⟩ := R
  have hL : B.get? L = none := by
    obtain ⟨_, ⟨L', _, hf, hn', _⟩, _⟩ := hfl.2.2.1
    obtain rfl : L = L' := Option.some.inj hf
    exact hn'
  refine wpAny_kp (Kp.noteFrame _ _) (wpAny_looks_onW (Around.frames_deeper K.stack) rfl hfl fun h₄ hheld₄ hsm₄ dk₄ => ?_)
  refine wpAny_kp (Kp.setFlight _ _) (wpAny_landsW hheld₄ fun h₅ hheld hsm₅' dk₅ => ?_)
  have hsm₅ := hsm₄.trans hsm₅'
  obtain ⟨g₅, T₅, F₅, K₅⟩ := kts_ground K F hBG hheld.1 (hsm.trans hsm₅)
  have X₅ : KF.In g₅ := XB.keeps K₅.stays
  have P₅ : TopRead p loose mg mb g₅ := topRead_of (TB.keeps K₅.stays)
  obtain ⟨ob, hob, hobc⟩ := hheld.there
  obtain ⟨nm, q', N, bs, bm, hdct, sn, sub, ab, col, dd, k0, k1, k2, k3, k5, newId, hC, hbase, hbT⟩ := kts_cls X₅ q
  have hC₅ := F₅.keep _ _ hC
  refine wpAny_handleBy_cons (codeAny_handlers_test (name_K F₅ X₅ P₅ ex ?_ hk hx hd)) (by intro q; cases q)
  refine wpAny_excMatches_sub_self hC₅ hob hobc hbase (codeAny_handlers_suite_as ?_)
  refine wpAny_kp (Kp.setFlight _ _) (lands_againW hheld fun h₆ hfl₆ hsm₆ dk₆ => ?_)
  obtain ⟨g₆, T₆, F₆, K₆⟩ := kts_ground K F hBG hfl₆.1 ((hsm.trans hsm₅).trans hsm₆)
  obtain ⟨oe, ws, hoe, hoec, hoed, hoe0⟩ := hfl₆.first
  have hdict6 := dk₆.dict (dk₅.dict (dk₄.dict hdict))
  have hdx : oe.dict = some dx := by
    obtain ⟨o2, e2, d2⟩ := hdict6
    have e3 : h₆.get? e = some o2 := e2
    rw [hoe] at e3
    cases e3
    exact d2
  have ne₆ : g₆.get? e = none := T₆.none_ _ (kts_fresh F hBG hfl₆.2.1 fun o ho m => by
    obtain ⟨_, o', ho', hd⟩ := K.frames.mem m
    rw [ho] at ho'
    cases ho'
    obtain ⟨sl, hs⟩ := ((hsm.trans hsm₅).trans hsm₆) _ _ (F.keep _ _ ho) hd
    rw [hoe] at hs
    cases hs
    exact hd _ hoed)
  have N₆ := News.more F₆ News.nil hoe (fun es n q => by rw [hoed] at q; cases q) ne₆
  have Nl : News g₆ L h₆ ((dx, od) :: news) := fun q hq => ⟨hfl₆.1 _ _ (hl q hq).1, (fun z => by have := (hl q hq).1; rw [z, hL] at this; cases this), T₆.none_ _ (kts_none F.keep (hl q hq).2.1)⟩
  have X₆ : KF.In g₆ := XB.keeps K₆.stays
  have P₆ : Top p loose mean mg mb g₆ := TB.keeps K₆.stays
  have D₆ : KtsDicts (outer.filterMap (·.frame)) g₆ := D.turn T₆
  refine stN F₆ (news := (e, oe) :: (dx, od) :: news) (fun q hq => by
    rcases List.mem_cons.mp hq with rfl | hq
    · exact N₆ _ (.head _)
    · exact Nl q hq) (fun h₇ F₇ N₇ => ?_) hk hlo
  exact k h₇ g₆ oe ws _ (T0.trans T₆) F₇ N₇ hoec hdx hoed K₆ X₆ P₆ D₆
end
end Mine
end
section
open PySem PySem.W PySem.Calls PyProof.Rows
namespace Mine
section
variable {prog : Program} {w : World} {A : Around} {E : Value → Shared → Prop} {h : Heap} {g : Array GenState} {d : Drawn} {t : Nat} {os : OsState} {x : Addr} {o : Obj} {vs : Array Value} {dx : Addr}
  {nm q : Str} {C N : Addr} {bs bmB : List Value} {sn : List Str} {sub : List Value} {ab : Bool} {col : Option Bool} {dd : Option Addr} {k0 k1 k2 k3 k5 : Option Value} {B newId : String} {mN mA : Str → Option Value} {name : Str} {v : Value}
set_option maxRecDepth 100000
/-- an attribute of the exception's own dict -/
theorem e_get {expr : Bool} {Q : Value → Shared → Prop} (FB : ExcAttrBase B bmB) (hC : h.get? C = some (excClassObj nm q C N bs bmB true sn sub ab col dd k0 k1 k2 k3 k5 newId)) (hn : h.Ns N mN)
    (hga : mN "__getattribute__" = none) (hgt : mN "__getattr__" = none) (hna : mN name = none) (hB : typeLookup (.type B) name = pure none)
    (hx : h.get? x = some o) (hc : o.cls = .ref C) (hd : o.data = .fields vs) (hdx : o.dict = some dx) (hns : h.Ns1 dx mA) (hv : mA name = some v) (hh : handedOut v = pure v) (hq : Q v ⟨h, g, d, t + 1, os⟩) :
    wpAny (model prog w) A (getAttr (.ref x) name expr) Q E ⟨h, g, d, t, os⟩ := by
  have f3 := FB.ga.bind (.ref x)
  have hx0 : (expr && onTheHeap (Value.builtin "BaseException.__getattribute__")) = false := by cases expr <;> rfl
  have hx2 : (Value.builtin "BaseException.__getattribute__" == Value.builtin "object.__getattribute__") = false := by decide +kernel
  have hx1 : (onTheHeap (Value.ref C) && Value.builtin "BaseException.__getattribute__" == Value.builtin "object.__getattribute__") = false := by rw [hx2]; rfl
  have entry : ∀ (A : Around) (R : Result → Shared → Prop) (tk : Tok), R (.ok (.ret v)) ⟨h, g, d, t + 1, os⟩ → codeAny (model prog w) A (.call (.builtin "BaseException.__getattribute__") ⟨[.ref x, .str name tk], []⟩) R ⟨h, g, d, t + 1, os⟩ := fun A R tk hR => by
    refine codeAny_call_builtin FB.ga.plain PySem.F.entry_bexc_ga (wpAny_check_ga_own FB hC .base hx hc ?_)
    unfold Builtin.«object.__getattribute__»
    repeat (first | (with_reducible refine wpAny_loadPart_at hx ?_; rw [hc]) | (with_reducible refine wpAny_typeLookup_exc hC hn FB.mro hB ?_; rw [hna]) | wp_step)
    rw [hd]
    show wpAny _ _ (instanceDict x false) _ _ _
    unfold instanceDict
    repeat (first | (with_reducible refine wpAny_loadPart_at hx ?_; rw [hc]) | with_reducible refine wpAny_loadPart_at hC ?_ | wp_step)
    rw [hdx]
    repeat (first | (with_reducible refine wpAny_nsGet hns.ns ?_; rw [hv]) | wp_step)
    exact hR
  unfold getAttr
  repeat (any_goals (first | assumption | (with_reducible refine wpAny_loadPart_at hx ?_; rw [hc]) | (with_reducible refine wpAny_typeLookup_exc hC hn FB.mro FB.ga.lookup ?_; rw [hga]) | (with_reducible refine wpAny_typeLookup_exc hC hn FB.mro FB.noGetattr ?_; rw [hgt]) | wp_step))
  refine entry _ _ _ ?_
  show wpAny _ _ (handedOut v) _ _ _
  rw [hh]
  exact wpAny_pure hq
end
section
variable {prog : Program} {w : World} {A : Around} {E : Value → Shared → Prop} {s : Shared} {K : Frag} {h₀ : Heap} {L e dx : Addr} {m : Str → Option Value} {rest : List (Addr × Obj)} {oe od : Obj}
theorem e_getK {expr : Bool} {vs : Array Value} {num : Int} {t1 : Tok} {Q : Value → Shared → Prop} (KC : ExcCls K) (F : Fr h₀ L s.heap m) (X₀ : K.In h₀) (N : News h₀ L s.heap rest) (me : (e, oe) ∈ rest) (md : (dx, od) ∈ rest)
    (hc : oe.cls = .ref 34) (hd : oe.data = .fields vs) (hdx : oe.dict = some dx) (hod : ∀ hh : Heap, hh.get? dx = some od → ∃ mA, hh.Ns1 dx mA ∧ mA "number" = some (.int num t1)) (hq : Q (.int num t1) { s with toks := s.toks + 1 }) :
    wpAny (model prog w) A (getAttr (.ref e) "number" expr) Q E s := by
  have X := X₀.keeps F.keep
  obtain ⟨h, g, d, tk, os⟩ := s
  obtain ⟨nm, qn, bs, sn, sub, ab, col, dd, k0, k1, k2, k3, k5, mN, h34, hN, -, -, hga, hgt, hnu, -⟩ := e_there KC X
  obtain ⟨mA, hns, hv⟩ := hod h (N _ md).1
  exact e_get PySem.F.attrBase_Exception h34 hN hga hgt hnu lk_exc_number (N _ me).1 hc hd hdx hns hv rfl hq
/-- the raise of a SnobolError that was just made -/
theorem e_raise {env : Env} {x : Sem Value} {Q : Flow → Shared → Prop} (KC : ExcCls K) (hh : A.handled = none)
    (h : wpAny (model prog w) A x (fun v s₁ => ∃ e oe t, v = .ref e ∧ K.In s₁.heap ∧ s₁.heap.get? e = some oe ∧ oe.cls = .ref 34 ∧ oe.data = .fields (exVs t) ∧ E (.ref e) s₁) E s) :
    wpAny (model prog w) A (raiseStmt env (some x) none) Q E s := by
  unfold raiseStmt
  refine wpAny_bind (wpAny_mono h (fun v s₁ h₁ => ?_) fun _ _ x => x)
  obtain ⟨e, oe, t, rfl, X, he, hc, hd, hE⟩ := h₁
  obtain ⟨nm, qn, bs, sn, sub, ab, col, dd, k0, k1, k2, k3, k5, mN, h34, -⟩ := e_there KC X
  obtain ⟨hp, g, d, tk, os⟩ := s₁
  have hcB : (Value.ref 34 :: [.type "Exception", .type "BaseException", .type "object"]).contains (.type "BaseException") = true := by decide
  repeat (first | (with_reducible refine wpAny_loadPart_at he ?_; first | rw [hc] | rw [hd]) | with_reducible refine wpAny_loadPart_at h34 ?_ | (with_reducible refine wpAny_isSubtype_exc h34 ?_; rw [hcB]) | rw [hd] | wp_step)
  exact wpAny_raiseNew_none hh hE
theorem e_Raise {env : Env} {x : Expr} {pos : Pos} {Q : Flow → Shared → Prop} (KC : ExcCls K) (hh : A.handled = none)
    (h : wpAny (model prog w) A (eval x env) (fun v s₁ => ∃ e oe t, v = .ref e ∧ K.In s₁.heap ∧ s₁.heap.get? e = some oe ∧ oe.cls = .ref 34 ∧ oe.data = .fields (exVs t) ∧ E (.ref e) s₁) E s) :
    wpAny (model prog w) A (exec (.Raise (some x) none pos) env) Q E s := by
  rw [arm_exec_Raise]
  refine wpAny_bind (wpAny_standAt ?_)
  refine e_raise KC hh ?_
  exact wpAny_bind (wpAny_mono h (fun v s₃ h₃ => wpAny_bind (wpAny_standAt (wpAny_pure h₃))) fun _ _ x => x)
theorem e_RaiseX {h₀ : Heap} (X₀ : K.In h₀) {env : Env} {x : Expr} {pos : Pos} {Q : Flow → Shared → Prop} (KC : ExcCls K) (hh : A.handled = none)
    (h : wpAny (model prog w) A (eval x env) (fun v s₁ => ∃ e oe t, v = .ref e ∧ K.In s₁.heap ∧ s₁.heap.get? e = some oe ∧ oe.cls = .ref 34 ∧ oe.data = .fields (exVs t) ∧ E (.ref e) s₁) E s) :
    wpAny (model prog w) A (exec (.Raise (some x) none pos) env) Q E s := e_Raise KC hh h
end
end Mine
end
section
open PySem PySem.W PySem.Calls PyProof.Rows
namespace Mine
section
variable {prog : Program} {w : World} {A₀ A : Around} {s : Shared} {base h₀ : Heap} {env : Env} {L : Addr} {m mg mb : Str → Option Value} {news : List (Addr × Obj)} {K : Frag} {p : Program} {loose : List Str} {mean : ExcName → Option Value}
    {R : Result → Shared → Prop} {name qual : Str} {params : Arguments} {body : List Stmt} {scope : Scope} {dV kV doc pm cdv ct oc : Value} {an od : Option Addr} {osl : Array (Option Value)} {f : Addr} {args : Args} {binds : List (Str × Value)}
theorem fm_one (hf : env.frame = some L) : [env].filterMap (·.frame) = [L] := by simp [hf]
/-- a def with a try of its own, called from the one frame that runs (a frame with cells too) -/
theorem code_defT (B : Below A₀ base [] h₀) (F : Fr h₀ L s.heap m) (X₀ : K.In h₀) (N : News h₀ L s.heap news) (T : Top p loose mean mg mb h₀) (hA : A.frames = some [env]) (hf : env.frame = some L) (hke : env.scope.kind = .function)
    (ho : K.lookup f = some ⟨oc, od, .func (fnOf name qual params body scope dV kV doc pm an cdv ct), osl⟩) (hcd : codeIn K cdv qual = true) (hroom : A.depth < recursionLimit)
    (hbind : BindsTo s (fnOf name qual params body scope dV kV doc pm an cdv ct) args binds) (hloc : ∀ y ∈ binds, scope.names.lookup y.1 = some .local)
    (h : ∀ g L' h₁, Fr h₀ L g m → Fr g L' h₁ (fun y => binds.reverse.lookup y) → News g L' h₁ news → Below A base [env] g → K.In g → Top p loose mean mg mb g → KtsDicts ([env].filterMap (·.frame)) g →
      wpAny (model prog w) (A.deeper (envOf qual scope L' f cdv)) (execs body (envOf qual scope L' f cdv))
        (fun fl s' => LeaveS0 ([env].filterMap (·.frame)) h₀ L m g R (match fl with | .ret v => v | _ => .none) s')
        (fun e s' => wpAny (model prog w) (A.deeper (envOf qual scope L' f cdv)) (leaving (envOf qual scope L' f cdv) e) (fun _ s'' => R (.error e) s'') (fun e' s'' => R (.error e') s'') s')
        { s with heap := h₁, toks := s.toks + binds.length })
    (hco : scope.isCoroutine = false) (hgen : scope.isGenerator = false) (hk : scope.kind = .function)
    (hcell : ∀ x ∈ scope.names, x.2 ≠ .cell) : codeAny (model prog w) A (.call (.ref f) args) R s := by
  have X := X₀.keeps F.keep
  obtain ⟨FG, BG, st, -⟩ := groundX (R := R) B F N hA hf hke
  refine codeAny_call_def (fd := fnOf name qual params body scope dV kV doc pm an cdv ct) (body := body) (binds := binds) hroom (X _ _ ho) rfl (T.nolimit.keeps F.keep) (codeRec_of X hcd) rfl hbind hcell hloc (fun h₁ hns hk₁ => ?_) hco hgen hk
  obtain ⟨⟨oL, es, ep, hLg, hLd, hLk, hLf⟩, keepG, ab⟩ := id FG
  refine wpAny_mono (h _ s.heap.objs.size h₁ FG ⟨hns, fun b o e => hk₁ b o (of_hideAll _ e), Nat.le_of_eq (hideAll_size _ _)⟩
    (fun p hp => ⟨hk₁ _ _ (N p hp).1, Nat.ne_of_lt (Heap.lt_size (N p hp).1), hideAll_none _ (List.mem_map_of_mem hp)⟩) BG (X₀.keeps st) (T.keeps st) (fun b hb => by
      rw [fm_one hf] at hb
      obtain rfl := List.mem_singleton.mp hb
      exact ⟨oL, es, ep, hLg, hLd⟩)) (fun fl s' hl => ?_) fun _ _ y => y
  obtain ⟨g', L', m', news', T', F', N', k⟩ := hl
  have nL₀ : h₀.get? L = none := kts_self F
  obtain ⟨sl, hs⟩ := T'.up hLg
  refine k ⟨⟨_, es, ep, F'.keep _ _ hs, hLd, hLk, hLf⟩, fun b o e => F'.keep b o (T'.other b o (st b o e) (fun q => by
    rw [fm_one hf] at q
    obtain rfl := List.mem_singleton.mp q
    rw [nL₀] at e
    cases e)), F.above⟩ fun p hp => ⟨(N' p hp).1, fun q => ?_, ?_⟩
  · have := (N' p hp).2.2; rw [q, hs] at this; cases this
  · cases q : h₀.get? p.1 with
    | none => rfl
    | some o =>
      obtain ⟨sl', hs'⟩ := T'.up (st _ _ q)
      have := (N' p hp).2.2
      rw [hs'] at this
      cases this
end
end Mine
end
section
open PySem PySem.W PyProof.Rows
namespace Mine
def fit (W x : Int) : Option Int := if -(2 : Int) ^ (W - 1).toNat ≤ x ∧ x < (2 : Int) ^ (W - 1).toNat then some x else none
def val (o : Option Int) (t : Tok) : Value := match o with
  | some x => .int x t
  | none => .none
theorem log_small (i : Int) (h : -4096 ≤ i ∧ i ≤ 4096) : i.natAbs.log2 < 1920 := by
  by_cases h0 : i.natAbs = 0
  · rw [h0]; decide
  · exact (Nat.log2_lt h0).mpr (Nat.lt_of_lt_of_le (show i.natAbs < 2 ^ 13 by omega) (Nat.pow_le_pow_right (by decide) (by decide)))
theorem val_some {W x y : Int} (h : -(2 : Int) ^ (W - 1).toNat ≤ x ∧ x < (2 : Int) ^ (W - 1).toNat) (e : x = y) (t : Tok) : val (fit W x) t = .int y t := by
  subst e
  unfold fit
  rw [if_pos h]
  rfl
theorem val_none {W x : Int} (h : ¬ (-(2 : Int) ^ (W - 1).toNat ≤ x ∧ x < (2 : Int) ^ (W - 1).toNat)) (t : Tok) : val (fit W x) t = .none := by
  unfold fit
  rw [if_neg h]
  rfl
theorem fin_ret {h₀ h' : Heap} {L : Addr} {m : Str → Option Value} {news news' : List (Addr × Obj)} {s : Shared} {Q : Value → Shared → Prop} {R : Tok → Value} {v : Value} {tk' : Nat}
    (hret : ∀ (t : Tok) (h' : Heap) (tk' : Nat), Fr h₀ L h' m → News h₀ L h' news → Q (R t) { s with heap := h', toks := tk' }) (e : ∃ t, R t = v) (F : Fr h₀ L h' m) (N : News h₀ L h' news') (hs : ∀ p ∈ news, p ∈ news') :
    Q v { s with heap := h', toks := tk' } := by
  obtain ⟨t, rfl⟩ := e
  exact hret t h' tk' F fun p hp => N p (hs p hp)
theorem q_pos {a b : Int} (ha : 0 ≤ a) (hb : 0 ≤ b) : a.fdiv b = a.tdiv b := by
  rw [Int.fdiv_eq_ediv_of_nonneg a hb, Int.tdiv_eq_ediv_of_nonneg ha]
theorem q_same {i j : Int} (h : (decide (i < 0) == decide (j < 0)) = true) : (if i < 0 then -i else i).fdiv (if j < 0 then -j else j) = i.tdiv j := by
  by_cases hi : i < 0 <;> by_cases hj : j < 0 <;> simp only [hi, hj, decide_true, decide_false, if_true, if_false] at h ⊢ <;> first | (exact absurd h (by decide)) | skip
  · rw [q_pos (by omega) (by omega), Int.neg_tdiv, Int.tdiv_neg, Int.neg_neg]
  · exact q_pos (by omega) (by omega)
theorem q_diff {i j : Int} (h : (decide (i < 0) == decide (j < 0)) = false) : -(if i < 0 then -i else i).fdiv (if j < 0 then -j else j) = i.tdiv j := by
  by_cases hi : i < 0 <;> by_cases hj : j < 0 <;> simp only [hi, hj, decide_true, decide_false, if_true, if_false] at h ⊢ <;> first | (exact absurd h (by decide)) | skip
  · rw [q_pos (by omega) (by omega), Int.neg_tdiv, Int.neg_neg]
  · rw [q_pos (by omega) (by omega), Int.tdiv_neg, Int.neg_neg]
theorem q_diff0 {i j : Int} (h : (decide (i < 0) == decide (j < 0)) = false) : 0 - (if i < 0 then -i else i).fdiv (if j < 0 then -j else j) = i.tdiv j := by
  rw [Int.zero_sub]; exact q_diff h
theorem r_same {i j : Int} (h : (decide (i < 0) == decide (j < 0)) = true) : i - j * (if i < 0 then -i else i).fdiv (if j < 0 then -j else j) = i.tmod j := by
  rw [q_same h, Int.tmod_def]
theorem r_diff {i j : Int} (h : (decide (i < 0) == decide (j < 0)) = false) : i - j * -(if i < 0 then -i else i).fdiv (if j < 0 then -j else j) = i.tmod j := by
  rw [q_diff h, Int.tmod_def]
end Mine
end
section
open PySem PySem.W PyProof.Rows
namespace Mine
theorem mk_fin {h₀ h' : Heap} {L : Addr} {m : Str → Option Value} {news big : List (Addr × Obj)} {W : Int} {t : Tok} {x dx : Addr} {es : List DictEntry} {n : Nat} {Q : Value → Shared → Prop} {s : Shared} {tk' : Nat}
   (hret : ∀ (t : Tok) (x dx : Addr) (es : List DictEntry) (n : Nat) (h' : Heap) (tk' : Nat), Fr h₀ L h' m → News h₀ L h' ((x, instObj 237 dx) :: (dx, dictOf es n) :: news) → (∀ p ∈ news, p.1 < dx) → dx < x → getL (Str.ofString "width") es = some (some (.int W t)) → Q (.ref x) { s with heap := h', toks := tk' })
   (F : Fr h₀ L h' m) (N : News h₀ L h' big) (h1 : (x, instObj 237 dx) ∈ big) (h2 : (dx, dictOf es n) ∈ big) (h3 : ∀ p ∈ news, p ∈ big) (l1 : ∀ p ∈ news, p.1 < dx) (l2 : dx < x) (e : getL (Str.ofString "width") es = some (some (.int W t))) : Q (.ref x) { s with heap := h', toks := tk' } :=
  hret t x dx es n h' tk' F (fun p hp => by
    rcases List.mem_cons.mp hp with rfl | hp
    · exact N _ h1
    rcases List.mem_cons.mp hp with rfl | hp
    · exact N _ h2
    exact N _ (h3 _ hp)) l1 l2 e
end Mine
end
section
open PySem PySem.W PySem.Calls PyProof.Rows PyProof.Rows.LCg
namespace Mine
section
variable {prog : Program} {w : World} {A : Around} {E : Value → Shared → Prop} {s : Shared} {h₀ : Heap} {L : Addr} {m : Str → Option Value} {env : Env}
def TupAt (ax : Addr) (its : Array Value) (news : List (Addr × Obj)) : Prop := ∃ k, (ax, ({ cls := .type "tuple", data := .seq its k } : Obj)) ∈ news
theorem TupAt.tup {h : Heap} {ax : Addr} {its : Array Value} {news : List (Addr × Obj)} (x : TupAt ax its news) (N : News h₀ L h news) : h.IsTuple ax its := by
  obtain ⟨k, hm⟩ := x
  exact ⟨_, (N _ hm).1, rfl, k, rfl⟩
def SrcT (prog : Program) (w : World) (A : Around) (h₀ : Heap) (L : Addr) (m : Str → Option Value) (env : Env) (elt : Expr) (x : Str) (scope : Scope) (cl : List (Str × Addr)) (Fin : Shared → List Value → List (Addr × Obj) → Prop) (xv : Value) (s₁ : Shared) : Prop :=
  ∃ ax its news, xv = .ref ax ∧ A.handled = none ∧ Fr h₀ L s₁.heap m ∧ News h₀ L s₁.heap news ∧ TupAt ax its news ∧ its.size ≤ sizeLine ∧
    ∀ s₂ : Shared, (∃ h, s₂ = { s₁ with heap := h }) → CompRest prog w A h₀ L m env elt x scope cl s₂ (TupAt ax its) (fun i v => its[i]? = some v) (Fin s₂) its.size 0 [] news
theorem SrcT.ledger {elt : Expr} {x : Str} {scope : Scope} {cl : List (Str × Addr)} {Fin : Shared → List Value → List (Addr × Obj) → Prop} {ax : Addr} {its : Array Value} {k : Nat} {news : List (Addr × Obj)} {s₁ : Shared}
    (hh : A.handled = none) (F : Fr h₀ L s₁.heap m) (N : News h₀ L s₁.heap news) (hm : (ax, ({ cls := .type "tuple", data := .seq its k } : Obj)) ∈ news) (hsz : its.size ≤ sizeLine)
    (h : ∀ g, CompRest prog w A h₀ L m env elt x scope cl { s₁ with heap := g } (TupAt ax its) (fun i v => its[i]? = some v) (Fin { s₁ with heap := g }) its.size 0 [] news) :
    SrcT prog w A h₀ L m env elt x scope cl Fin (.ref ax) s₁ := ⟨ax, its, news, rfl, hh, F, N, ⟨k, hm⟩, hsz, fun _ ⟨g, e⟩ => e ▸ h g⟩
theorem tup_st {ax I : Addr} {its : Array Value} : ∀ i (h h' : Heap) (o : Obj) (nw : List (Addr × Obj)), (h.IsTupleIter I ax i ∧ h.IsTuple ax its) → h.get? I = some o → h'.get? I = some o → (∀ b o, h₀.get? b = some o → h'.get? b = some o) → News h₀ L h' nw → TupAt ax its nw → (h'.IsTupleIter I ax i ∧ h'.IsTuple ax its) :=
  fun i h h' o nw st e e' _ N S => ⟨by obtain ⟨o', q, r⟩ := st.1; rw [e] at q; cases q; exact ⟨o, e', r⟩, S.tup N⟩
/-- a list comprehension over a written tuple, turn by turn -/
theorem ListComp_T {elt iter : Expr} {x : Str} {px : Pos} {scope : Scope} {cl : List (Str × Addr)} {pos : Pos} {Q : Value → Shared → Prop} (F₀ : Fr h₀ L s.heap m)
    (hclos : closureFor scope env = pure cl) (hcell : ∀ y ∈ scope.names, y.2 ≠ .cell) (hkind : scope.kind = .function)
    (hnames : ∀ y ∈ scope.names, y.2 = .local → scope.names.lookup y.1 = some .local) (hx : scope.names.lookup x = some .local)
    (h : wpAny (model prog w) A (eval iter env) (SrcT prog w A h₀ L m env elt x scope cl (fun s₂ => FinE h₀ L m s₂ Q)) E s)
    (hs : ∀ x, foldedSetIterable iter env x = pure x := by intro _; rfl) :
    wpAny (model prog w) A (eval (.ListComp elt [⟨.Name x px, iter, [], 0⟩] scope pos) env) Q E s := by
  rw [eval_ListComp]
  refine wpAny_comprehension_free (use := none) rfl hs hclos hkind hnames (wpAny_mono h (fun xv s₁ h₁ => ?_) fun _ _ e => e)
  obtain ⟨ax, its, news, rfl, hh, F, N, S, hsz, R⟩ := h₁
  have hl := S.tup N
  have hlt : ax < s₁.heap.objs.size := by obtain ⟨_, e, _⟩ := hl; exact Heap.lt_size e
  refine wpAny_pyIter_tuple hl ?_
  have up : ∀ b o, s₁.heap.get? b = some o → (s₁.heap.push { cls := .type "tuple_iterator", data := .fields #[.ref ax, .int 0 0] }).get? b = some o := fun b o e => Heap.get?_push_of_some _ e
  refine block_U (Walks.tuple hh s₁.heap.objs.size ax (Nat.ne_of_lt hlt) its) hsz (fun i h st => by obtain ⟨o, e, _⟩ := st.1; exact ⟨o, e⟩) tup_st hcell hkind hx ⟨⟨_, Heap.get?_push_size _ rfl, rfl, rfl⟩, hl.push _⟩ (fun b hb => ?_)
    (F.keeps up) (N.grown up) (Nat.ne_of_lt F.ns.lt) (next_is_new F) (fun p hp => Nat.ne_of_lt (Heap.lt_size (N p hp).1)) S (R _ ⟨_, rfl⟩) ?_
  · show b < (s₁.heap.push _).objs.size
    rw [Heap.size_push]
    rcases List.mem_cons.mp hb with rfl | hb
    · exact Nat.lt_succ_self _
    · rw [List.mem_singleton.mp hb]; exact Nat.lt_succ_of_lt hlt
  · intro D C h tk m' ys news' F' N' o1 hn hC₀ hD₀ hCL hDL hCD offC fin
    refine ⟨m', hn, fun h'' hs'' => fin D h'' tk (F'.change hs'' hCL hC₀) (fun p hp => ?_) o1⟩
    refine ⟨hs''.extBut _ _ ?_ (N' p hp).1, (N' p hp).2⟩
    rcases List.mem_cons.mp hp with rfl | hp
    · exact Ne.symm hCD
    · exact offC p hp
end
end Mine
end
section
open PySem PySem.W PyProof.Rows
namespace Mine
def act (qs : List Int) (v : Int × Int) : Int × Int := qs.foldr (fun q b => (q * b.1 + b.2, b.1)) v
def SS (a b : Int) : Prop := (0 ≤ a ∧ 0 ≤ b) ∨ (a ≤ 0 ∧ b ≤ 0)
/-- what a truncated division gives -/
def Dv (one other q r : Int) : Prop := one = q * other + r ∧ r.natAbs < other.natAbs ∧ ((0 ≤ one ∧ 0 ≤ r ∧ 0 ≤ q * other ∧ r ≤ one) ∨ (one ≤ 0 ∧ r ≤ 0 ∧ q * other ≤ 0 ∧ one ≤ r))
theorem dv_tdiv (a b : Int) (hb : b ≠ 0) : Dv a b (a.tdiv b) (a.tmod b) := by
  have h := Int.mul_tdiv_add_tmod a b
  rw [Int.mul_comm] at h
  have h1 := Int.natAbs_tmod a b
  have h2 : (a.tmod b).natAbs < b.natAbs := by rw [h1]; exact Nat.mod_lt _ (by omega)
  have h3 : (a.tmod b).natAbs ≤ a.natAbs := by rw [h1]; exact Nat.mod_le _ _
  refine ⟨h.symm, h2, ?_⟩
  rcases Int.le_total 0 a with ha | ha
  · have := Int.tmod_nonneg b ha
    left; omega
  · have := Int.tmod_nonneg b (a := -a) (by omega)
    rw [Int.neg_tmod] at this
    right; omega
theorem ss_turn {p a one other q r : Int} (d : Dv one other q r) (s : SS (p * one) (a * other)) : SS ((q * p + a) * other) (p * r) := by
  obtain ⟨-, -, d⟩ := d
  have e : (q * p + a) * other = p * (q * other) + a * other := by grind
  rw [e]
  unfold SS at s ⊢
  rcases Int.lt_trichotomy p 0 with hp | rfl | hp
  · rcases d with ⟨d1, d2, d3, d4⟩ | ⟨d1, d2, d3, d4⟩
    · have g1 : 0 ≤ -p * r := Int.mul_nonneg (by omega) d2
      have g2 : 0 ≤ -p * (q * other) := Int.mul_nonneg (by omega) d3
      have g3 : 0 ≤ -p * one := Int.mul_nonneg (by omega) d1
      rw [Int.neg_mul] at g1 g2 g3
      rcases s with s | s
      · have z : p * one = 0 := by omega
        rcases Int.mul_eq_zero.mp z with z | z
        · omega
        · have : r = 0 := by omega
          subst this; simp only [Int.mul_zero]; omega
      · omega
    · have g1 : 0 ≤ -p * -r := Int.mul_nonneg (by omega) (by omega)
      have g2 : 0 ≤ -p * -(q * other) := Int.mul_nonneg (by omega) (by omega)
      have g3 : 0 ≤ -p * -one := Int.mul_nonneg (by omega) (by omega)
      rw [Int.neg_mul_neg] at g1 g2 g3
      rcases s with s | s
      · omega
      · have z : p * one = 0 := by omega
        rcases Int.mul_eq_zero.mp z with z | z
        · omega
        · have : r = 0 := by omega
          subst this; simp only [Int.mul_zero]; omega
  · simp only [Int.zero_mul]; omega
  · rcases d with ⟨d1, d2, d3, d4⟩ | ⟨d1, d2, d3, d4⟩
    · have g1 : 0 ≤ p * r := Int.mul_nonneg (by omega) d2
      have g2 : 0 ≤ p * (q * other) := Int.mul_nonneg (by omega) d3
      have g3 : 0 ≤ p * one := Int.mul_nonneg (by omega) d1
      rcases s with s | s
      · omega
      · have z : p * one = 0 := by omega
        rcases Int.mul_eq_zero.mp z with z | z
        · omega
        · have : r = 0 := by omega
          subst this; simp only [Int.mul_zero]; omega
    · have g1 : 0 ≤ p * -r := Int.mul_nonneg (by omega) (by omega)
      have g2 : 0 ≤ p * -(q * other) := Int.mul_nonneg (by omega) (by omega)
      have g3 : 0 ≤ p * -one := Int.mul_nonneg (by omega) (by omega)
      rw [Int.mul_neg] at g1 g2 g3
      rcases s with s | s
      · have z : p * one = 0 := by omega
        rcases Int.mul_eq_zero.mp z with z | z
        · omega
        · have : r = 0 := by omega
          subst this; simp only [Int.mul_zero]; omega
      · omega
theorem bound {f x y u v : Int} (e : f = x * u + y * v) (s : SS (x * u) (y * v)) (hu : u ≠ 0) (hf : f.natAbs ≤ 2048) : x.natAbs ≤ 2048 := by
  have h : (x * u).natAbs ≤ 2048 := by unfold SS at s; omega
  rw [Int.natAbs_mul] at h
  exact Nat.le_trans (Nat.le_mul_of_pos_right _ (by omega)) h
structure Inv (B first second : Int) (one other sign p0 p1 a0 a1 : Int) (qs : List Int) : Prop where
  r1 : -B ≤ one ∧ one < B
  r2 : -B ≤ other ∧ other < B
  fst : first = p0 * one + a0 * other
  snd : second = p1 * one + a1 * other
  det : p0 * a1 - a0 * p1 = -sign
  small : p0.natAbs ≤ 2048 ∧ p1.natAbs ≤ 2048 ∧ a0.natAbs ≤ 2048 ∧ a1.natAbs ≤ 2048
  s0 : SS (p0 * one) (a0 * other)
  s1 : SS (p1 * one) (a1 * other)
  mat : ∀ x y, act qs (x, y) = (x * p0 + y * a0, x * p1 + y * a1)
  len : qs.length + other.natAbs ≤ 2048
  big : B ≤ 2048
  hist : ∀ k, (act (qs.drop k) (one, other)).1.natAbs ≤ 2048 ∧ (act (qs.drop k) (one, other)).2.natAbs ≤ 2048
  nz : one ≠ 0 ∨ qs = []
  qb : ∀ q ∈ qs, q.natAbs ≤ 2048
theorem Dv.small {one other q r : Int} (d : Dv one other q r) (ho : other ≠ 0) (h : one.natAbs ≤ 2048) : q.natAbs ≤ 2048 := by
  obtain ⟨d1, d2, d3⟩ := d
  have h1 : (q * other).natAbs ≤ 2048 := by omega
  rw [Int.natAbs_mul] at h1
  exact Nat.le_trans (Nat.le_mul_of_pos_right _ (by omega)) h1
theorem inv_start {B f g : Int} (hB : B ≤ 2048) (h1 : -B ≤ f ∧ f < B) (h2 : -B ≤ g ∧ g < B) : Inv B f g f g (-1) 1 0 0 1 [] :=
  ⟨h1, h2, by omega, by omega, by omega, by decide, by unfold SS; omega, by unfold SS; omega, fun x y => by simp [act], by simp; omega, hB, fun k => by simp [act]; omega, Or.inr rfl, by simp⟩
theorem inv_turn {B f g one other sign p0 p1 a0 a1 q r : Int} {qs : List Int} (I : Inv B f g one other sign p0 p1 a0 a1 qs) (hf : f.natAbs ≤ 2048 ∧ g.natAbs ≤ 2048) (ho : other ≠ 0) (d : Dv one other q r) :
    Inv B f g other r (0 - sign) (q * p0 + a0) (q * p1 + a1) p0 p1 (qs ++ [q]) where
  r1 := I.r2
  r2 := by have := I.r2; have := d.2.1; omega
  fst := by rw [I.fst, d.1]; grind
  snd := by rw [I.snd, d.1]; grind
  det := by have := I.det; grind
  small := by
    have e0 : f = (q * p0 + a0) * other + p0 * r := by rw [I.fst, d.1]; grind
    have e1 : g = (q * p1 + a1) * other + p1 * r := by rw [I.snd, d.1]; grind
    exact ⟨bound e0 (ss_turn d I.s0) ho hf.1, bound e1 (ss_turn d I.s1) ho hf.2, I.small.1, I.small.2.1⟩
  s0 := ss_turn d I.s0
  s1 := ss_turn d I.s1
  mat := fun x y => by
    have : act (qs ++ [q]) (x, y) = act qs (q * x + y, x) := by simp [act]
    rw [this, I.mat]; grind
  len := by have := I.len; have := d.2.1; simp; omega
  big := I.big
  hist := fun k => by
    rcases Nat.lt_or_ge qs.length k with hk | hk
    · have e : (qs ++ [q]).drop k = [] := List.drop_eq_nil_of_le (by simp; omega)
      have b1 := I.r2; have b2 := I.big; have b3 := d.2.1
      rw [e]; simp [act]; omega
    · have e : (qs ++ [q]).drop k = qs.drop k ++ [q] := by
        rw [List.drop_append, show k - qs.length = 0 by omega]; rfl
      have e2 : act (qs.drop k ++ [q]) (other, r) = act (qs.drop k) (one, other) := by
        rw [d.1]; simp [act]
      rw [e, e2]; exact I.hist k
  nz := Or.inl ho
  qb := fun z hz => by
    rcases List.mem_append.mp hz with h | h
    · exact I.qb z h
    · rw [List.mem_singleton.mp h]
      have b1 := I.r1; have b2 := I.big
      exact d.small ho (by omega)
theorem inv_end {B f g one sign p0 p1 a0 a1 : Int} {qs : List Int} (I : Inv B f g one 0 sign p0 p1 a0 a1 qs) : p0 * one = f ∧ p1 * one = g ∧ act qs (1, 0) = (p0, p1) :=
  ⟨by rw [I.fst]; omega, by rw [I.snd]; omega, by rw [I.mat]; simp⟩
theorem act_lin (qs : List Int) (g a b : Int) : act qs (g * a, g * b) = (g * (act qs (a, b)).1, g * (act qs (a, b)).2) := by
  induction qs with
  | nil => rfl
  | cons q qs ih =>
    show (q * (act qs (g * a, g * b)).1 + (act qs (g * a, g * b)).2, (act qs (g * a, g * b)).1) = (g * (q * (act qs (a, b)).1 + (act qs (a, b)).2), g * (act qs (a, b)).1)
    rw [ih]; simp only [Prod.mk.injEq, and_true]; grind
theorem back_small {B f g one sign p0 p1 a0 a1 : Int} {qs : List Int} (I : Inv B f g one 0 sign p0 p1 a0 a1 qs) (k : Nat) : (act (qs.drop k) (1, 0)).1.natAbs ≤ 2048 ∧ (act (qs.drop k) (1, 0)).2.natAbs ≤ 2048 := by
  rcases I.nz with h | h
  · have h1 := I.hist k
    have e := act_lin (qs.drop k) one 1 0
    rw [Int.mul_one, Int.mul_zero] at e
    rw [e] at h1
    simp only [Int.natAbs_mul] at h1
    have h2 : 0 < one.natAbs := by omega
    exact ⟨Nat.le_trans (Nat.le_mul_of_pos_left _ h2) h1.1, Nat.le_trans (Nat.le_mul_of_pos_left _ h2) h1.2⟩
  · subst h; simp [act]
theorem Inv.dv {B f g one other sign p0 p1 a0 a1 : Int} {qs : List Int} (I : Inv B f g one other sign p0 p1 a0 a1 qs) (ho : other ≠ 0) : Dv one other (one.tdiv other) (one.tmod other) := have _ := I; dv_tdiv _ _ ho
theorem quot_none {B one other q r : Int} (hB : 0 < B) (h1 : -B ≤ one ∧ one < B) (ho : other ≠ 0)
    (d : one = q * other + r ∧ r.natAbs < other.natAbs ∧ ((0 ≤ one ∧ 0 ≤ r ∧ 0 ≤ q * other ∧ r ≤ one) ∨ (one ≤ 0 ∧ r ≤ 0 ∧ q * other ≤ 0 ∧ one ≤ r))) (hq : ¬ (-B ≤ q ∧ q < B)) : one = -B ∧ other = -1 ∧ r = 0 := by
  obtain ⟨e, hr, s⟩ := d
  have hb : (q * other).natAbs ≤ B.natAbs := by omega
  rw [Int.natAbs_mul] at hb
  have h2 : q.natAbs ≤ B.natAbs := Nat.le_trans (Nat.le_mul_of_pos_right _ (by omega)) hb
  have h3 : q = B := by omega
  subst h3
  have h4 : other.natAbs = 1 := by
    have : q.natAbs * other.natAbs ≤ q.natAbs * 1 := by omega
    have := Nat.le_of_mul_le_mul_left this (by omega)
    omega
  have h5 : other = 1 ∨ other = -1 := by omega
  rcases h5 with rfl | rfl <;> omega
theorem in_range {B : Int} (c : Int) (hB : 0 < B) : -B ≤ c.fmod (2 * B) - B ∧ c.fmod (2 * B) - B < B := by
  have h1 := Int.fmod_nonneg_of_pos c (b := 2 * B) (by omega)
  have h2 := Int.fmod_lt_of_pos c (b := 2 * B) (by omega)
  omega
end Mine
end
section
open PySem PySem.W PyProof.Rows
namespace Mine
structure St where
  one : Int
  other : Int
  sign : Int
  p0 : Int
  p1 : Int
  a0 : Int
  a1 : Int
  t1 : Tok
  t2 : Tok
  t3 : Tok
  t4 : Tok
  t5 : Tok
  t6 : Tok
  t7 : Tok
  qs : List Int
  vs : List Value
  nn : Nat
  pa : Addr
  aa : Addr
  la : Addr
def led (x dx ca : Addr) (es : List DictEntry) (n : Nat) (oc : Obj) : St → List (Addr × Obj)
  | ⟨_, _, _, p0, p1, a0, a1, _, _, _, t4, t5, t6, t7, _, vs, nn, pa, aa, la⟩ =>
    [(pa, { cls := .type "tuple", data := .seq #[.int p0 t4, .int p1 t5] }), (aa, { cls := .type "tuple", data := .seq #[.int a0 t6, .int a1 t7] }), (la, PySem.W.listOf vs.toArray nn), (x, instObj 237 dx), (dx, dictOf es n), (ca, oc)]
def pst : St → List (Str × Value)
  | ⟨one, other, sign, _, _, _, _, t1, t2, t3, _, _, _, _, _, _, _, pa, aa, la⟩ =>
    [(Str.ofString "one", .int one t1), (Str.ofString "other", .int other t2), (Str.ofString "sign", .int sign t3), (Str.ofString "pair", .ref pa), (Str.ofString "ahead", .ref aa), (Str.ofString "quotients", .ref la)]
def fcs (x dx ca : Addr) : St → Prop
  | ⟨_, _, _, _, _, _, _, _, _, _, _, _, _, _, qs, vs, _, pa, aa, la⟩ =>
    IntsAre vs qs ∧ vs.length = qs.length ∧ pa ≠ la ∧ aa ≠ la ∧ x ≠ la ∧ dx ≠ la ∧ ca ≠ la
def inv (B f g : Int) : St → Prop
  | ⟨one, other, sign, p0, p1, a0, a1, _, _, _, _, _, _, _, qs, _, _, _, _, _⟩ => Inv B f g one other sign p0 p1 a0 a1 qs
def kept : List Str := [Str.ofString "quotient", Str.ofString "rest", Str.ofString "row", Str.ofString "part", Str.ofString "at"]
theorem law_while {prog : Program} {w : World} {A : Around} {E : Value → Shared → Prop} {Q : Flow → Shared → Prop} {s : Shared} {env : Env} {h₀ : Heap} {L : Addr} {test : Expr} {body : List Stmt} {pos : Pos} {m₀ : Str → Option Value}
    {all : List (Addr × Obj)} {x dx ca pa aa la : Addr} {es : List DictEntry} {n : Nat} {oc : Obj} {f g B : Int} {t1 t2 t3 t4 t5 t6 t7 : Tok}
    (F : Fr h₀ L s.heap m₀) (N : News h₀ L s.heap all)
    (k1 : m₀ (Str.ofString "one") = some (.int f t1)) (k2 : m₀ (Str.ofString "other") = some (.int g t2)) (k3 : m₀ (Str.ofString "sign") = some (.int (-1) t3))
    (k4 : m₀ (Str.ofString "pair") = some (.ref pa)) (k5 : m₀ (Str.ofString "ahead") = some (.ref aa)) (k6 : m₀ (Str.ofString "quotients") = some (.ref la))
    (k7 : m₀ (Str.ofString "world") = some (.ref x))
    (n1 : (pa, ({ cls := .type "tuple", data := .seq #[.int 1 t4, .int 0 t5] } : Obj)) ∈ all) (n2 : (aa, ({ cls := .type "tuple", data := .seq #[.int 0 t6, .int 1 t7] } : Obj)) ∈ all) (n3 : (la, PySem.W.listOf #[] 0) ∈ all)
    (n4 : (x, instObj 237 dx) ∈ all) (n5 : (dx, dictOf es n) ∈ all) (n6 : (ca, oc) ∈ all)
    (o1 : pa ≠ la) (o2 : aa ≠ la) (o3 : x ≠ la) (o4 : dx ≠ la) (o5 : ca ≠ la)
    (hB : B ≤ 2048) (hf : -B ≤ f ∧ f < B) (hg : -B ≤ g ∧ g < B)
    (turn : ∀ (c : St) (u : Str → Option Value) h tk, fcs x dx ca c → inv B f g c → Fr h₀ L h (kstB (fun z => if kept.contains z then u z else m₀ z) (pst c)) → News h₀ L h (led x dx ca es n oc c) →
      wpAny (model prog w) A (isTrue test env (eval test env)) (fun b s₂ =>
        if b = true then wpAny (model prog w) A (execs body env) (KswPost h₀ L s (led x dx ca es n oc) pst (fcs x dx ca) kept m₀ (inv B f g) (fun c => c.other.natAbs) Q c) E s₂ else Q .next s₂) E { s with heap := h, toks := tk })
    (hE : PassesOwn (model prog w) A env E := by passes_own) :
    wpAny (model prog w) A (exec (.While test body [] pos) env) Q E s := by
  refine ksw_while (led x dx ca es n oc) pst (fcs x dx ca) kept (inv B f g) (fun c => c.other.natAbs) ⟨f, g, -1, 1, 0, 0, 1, t1, t2, t3, t4, t5, t6, t7, [], [], 0, pa, aa, la⟩ F (fun p hp => N p ?_) ?_ ?_ ?_ turn hE
  · simp only [led, List.mem_cons, List.not_mem_nil, or_false] at hp
    rcases hp with rfl | rfl | rfl | rfl | rfl | rfl <;> assumption
  · exact ⟨by constructor, rfl, o1, o2, o3, o4, o5⟩
  · intro p hp
    simp only [pst, List.mem_cons, List.not_mem_nil, or_false] at hp
    rcases hp with rfl | rfl | rfl | rfl | rfl | rfl <;> assumption
  · exact inv_start hB hf hg
theorem law_whileW {prog : Program} {w : World} {A : Around} {E : Value → Shared → Prop} {Q : Flow → Shared → Prop} {s : Shared} {env : Env} {h₀ : Heap} {L : Addr} {test : Expr} {body : List Stmt} {pos : Pos} {m₀ : Str → Option Value}
    {all : List (Addr × Obj)} {x dx ca pa aa la : Addr} {es : List DictEntry} {n : Nat} {oc : Obj} {c0 c1 W : Int} {tw tb : Tok} {t1 t2 t3 t4 t5 t6 t7 : Tok}
    (F : Fr h₀ L s.heap m₀) (N : News h₀ L s.heap all)
    (k1 : m₀ (Str.ofString "one") = some (.int (c0.fmod (2 * 2 ^ (W - 1).toNat) - 2 ^ (W - 1).toNat) t1)) (k2 : m₀ (Str.ofString "other") = some (.int (c1.fmod (2 * 2 ^ (W - 1).toNat) - 2 ^ (W - 1).toNat) t2)) (k3 : m₀ (Str.ofString "sign") = some (.int (-1) t3))
    (k4 : m₀ (Str.ofString "pair") = some (.ref pa)) (k5 : m₀ (Str.ofString "ahead") = some (.ref aa)) (k6 : m₀ (Str.ofString "quotients") = some (.ref la))
    (k8 : m₀ (Str.ofString "first") = some (.int (c0.fmod (2 * 2 ^ (W - 1).toNat) - 2 ^ (W - 1).toNat) t1)) (k9 : m₀ (Str.ofString "second") = some (.int (c1.fmod (2 * 2 ^ (W - 1).toNat) - 2 ^ (W - 1).toNat) t2))
    (k7 : m₀ (Str.ofString "world") = some (.ref x))
    (n1 : (pa, ({ cls := .type "tuple", data := .seq #[.int 1 t4, .int 0 t5] } : Obj)) ∈ all) (n2 : (aa, ({ cls := .type "tuple", data := .seq #[.int 0 t6, .int 1 t7] } : Obj)) ∈ all) (n3 : (la, PySem.W.listOf #[] 0) ∈ all)
    (n4 : (x, instObj 237 dx) ∈ all) (n5 : (dx, dictOf es n) ∈ all) (n6 : (ca, oc) ∈ all)
    (o1 : pa ≠ la) (o2 : aa ≠ la) (o3 : x ≠ la) (o4 : dx ≠ la) (o5 : ca ≠ la)
    (hc : oc.data = .cell (some (.int (2 ^ (W - 1).toNat) tb))) (hw : getL (Str.ofString "width") es = some (some (.int W tw))) (hW : 5 ≤ W ∧ W ≤ 12)
    (turn : ∀ (f g W : Int) (c : St) (u : Str → Option Value) h tk, getL (Str.ofString "width") es = some (some (.int W tw)) → (5 ≤ W ∧ W ≤ 12) → oc.data = .cell (some (.int (2 ^ (W - 1).toNat) tb)) → (-(2 : Int) ^ (W - 1).toNat ≤ f ∧ f < (2 : Int) ^ (W - 1).toNat) → (-(2 : Int) ^ (W - 1).toNat ≤ g ∧ g < (2 : Int) ^ (W - 1).toNat) → m₀ (Str.ofString "first") = some (.int f t1) → m₀ (Str.ofString "second") = some (.int g t2) → fcs x dx ca c → inv ((2 : Int) ^ (W - 1).toNat) f g c → Fr h₀ L h (kstB (fun z => if kept.contains z then u z else m₀ z) (pst c)) → News h₀ L h (led x dx ca es n oc c) →
      wpAny (model prog w) A (isTrue test env (eval test env)) (fun b s₂ =>
        if b = true then wpAny (model prog w) A (execs body env) (KswPost h₀ L s (led x dx ca es n oc) pst (fcs x dx ca) kept m₀ (inv ((2 : Int) ^ (W - 1).toNat) f g) (fun c => c.other.natAbs) Q c) E s₂ else Q .next s₂) E { s with heap := h, toks := tk })
    (hE : PassesOwn (model prog w) A env E := by passes_own) :
    wpAny (model prog w) A (exec (.While test body [] pos) env) Q E s := by
  have hp : (2 : Int) ^ (W - 1).toNat ≤ 2048 ∧ 0 < (2 : Int) ^ (W - 1).toNat := by
    have h : (W - 1).toNat ≤ 11 := by omega
    have h2 : (2 : Nat) ^ (W - 1).toNat ≤ 2 ^ 11 := Nat.pow_le_pow_right (by decide) h
    have h3 : ((2 : Int) ^ (W - 1).toNat) = ((2 ^ (W - 1).toNat : Nat) : Int) := by simp
    have h4 : 0 < (2 : Nat) ^ (W - 1).toNat := Nat.pow_pos (by decide)
    rw [h3]; omega
  exact law_while F N k1 k2 k3 k4 k5 k6 k7 n1 n2 n3 n4 n5 n6 o1 o2 o3 o4 o5 hp.1 (in_range c0 hp.2) (in_range c1 hp.2) (fun c u h tk => turn _ _ W c u h tk hw hW hc (in_range c0 hp.2) (in_range c1 hp.2) k8 k9) hE
theorem int_of {o : Option Value} {a b : Int} {t u : Tok} (h1 : o = some (.int a t)) (h2 : o = some (.int b u)) : a = b := by
  rw [h1] at h2; injection h2 with h; injection h
theorem turn_end {h₀ h' : Heap} {L : Addr} {s : Shared} {x dx ca : Addr} {es : List DictEntry} {n nn' : Nat} {oc : Obj} {m₀ m' : Str → Option Value} {B f g : Int} {Q : Flow → Shared → Prop} {c : St} {news' : List (Addr × Obj)} {tk : Nat}
    {one other sign p0 p1 a0 a1 q r : Int} {t1 t2 t3 t4 t5 t6 t7 tq : Tok} {qs : List Int} {vs : List Value} {pa aa la : Addr}
    (iv : Inv B f g one other sign p0 p1 a0 a1 qs) (hB : 0 < B) (rf : -B ≤ f ∧ f < B) (rg : -B ≤ g ∧ g < B) (ho : other ≠ 0) (d : Dv one other q r) (hc : c.other = other)
    (F : Fr h₀ L h' m') (N : News h₀ L h' news')
    (k1 : m' (Str.ofString "one") = some (.int other t1)) (k2 : m' (Str.ofString "other") = some (.int r t2)) (k3 : m' (Str.ofString "sign") = some (.int (0 - sign) t3))
    (k4 : m' (Str.ofString "pair") = some (.ref pa)) (k5 : m' (Str.ofString "ahead") = some (.ref aa)) (k6 : m' (Str.ofString "quotients") = some (.ref la))
    (n1 : (pa, ({ cls := .type "tuple", data := .seq #[.int (q * p0 + a0) t4, .int (q * p1 + a1) t5] } : Obj)) ∈ news') (n2 : (aa, ({ cls := .type "tuple", data := .seq #[.int p0 t6, .int p1 t7] } : Obj)) ∈ news') (n3 : (la, PySem.W.listOf (vs.toArray.push (.int q tq)) nn') ∈ news')
    (n4 : (x, instObj 237 dx) ∈ news') (n5 : (dx, dictOf es n) ∈ news') (n6 : (ca, oc) ∈ news')
    (f1 : IntsAre vs qs) (f2 : vs.length = qs.length) (o1 : pa ≠ la) (o2 : aa ≠ la) (o3 : x ≠ la) (o4 : dx ≠ la) (o5 : ca ≠ la)
    (hr : ∀ z, (∀ p ∈ ([(Str.ofString "one", .int other t1), (Str.ofString "other", .int r t2), (Str.ofString "sign", .int (0 - sign) t3), (Str.ofString "pair", .ref pa), (Str.ofString "ahead", .ref aa), (Str.ofString "quotients", .ref la)] : List (Str × Value)), z ≠ p.1) → kept.contains z = false → m' z = m₀ z) :
    KswPost h₀ L s (led x dx ca es n oc) pst (fcs x dx ca) kept m₀ (inv B f g) (fun c => c.other.natAbs) Q c .next { s with heap := h', toks := tk } := by
  dsimp only [KswPost]
  refine ksw_end ⟨other, r, 0 - sign, q * p0 + a0, q * p1 + a1, p0, p1, t1, t2, t3, t4, t5, t6, t7, qs ++ [q], vs ++ [.int q tq], nn', pa, aa, la⟩ F N ?_ ?_ ?_ hr ?_ ?_
  · intro p hp
    simp only [led, List.mem_cons, List.not_mem_nil, or_false] at hp
    rcases hp with rfl | rfl | rfl | rfl | rfl | rfl
    · exact n1
    · exact n2
    · rw [List.push_toArray] at n3; exact n3
    · exact n4
    · exact n5
    · exact n6
  · exact ⟨IntsAre.append f1 (.cons _ _ .nil), by simp [f2], o1, o2, o3, o4, o5⟩
  · intro p hp
    simp only [pst, List.mem_cons, List.not_mem_nil, or_false] at hp
    rcases hp with rfl | rfl | rfl | rfl | rfl | rfl <;> assumption
  · have b := iv.big
    exact inv_turn iv (by omega) ho d
  · show r.natAbs < c.other.natAbs
    rw [hc]; exact d.2.1
end Mine
end
section
open PySem PySem.W PyProof.Rows
namespace Mine
theorem ne_val {w : World} {A : Around} {Q E : Value → Shared → Prop} {s : Shared} {o : Option Int} {t t' : Tok} (q : Q (.bool false) s) : wpAny (model PySem.Challenge.rw_tk0106_01.row.prog w) A (compareOp .NotEq (val o t) (val o t')) Q E s := by
  cases o with
  | none => exact PySem.EqNone.ne_none_none q
  | some x => exact ne_int (by rw [bne_self_eq_false]; exact q)
theorem isnot_int {w : World} {A : Around} {Q E : Value → Shared → Prop} {s : Shared} {x : Int} {t : Tok} (q : Q (.bool true) s) : wpAny (model PySem.Challenge.rw_tk0106_01.row.prog w) A (compareOp .IsNot (.int x t) .none) Q E s := wpAny_isNot_other (by rfl) (by intro x; cases x) q
theorem is_int_none {w : World} {A : Around} {Q E : Value → Shared → Prop} {s : Shared} {x : Int} {t : Tok} (q : Q (.bool false) s) : wpAny (model PySem.Challenge.rw_tk0106_01.row.prog w) A (compareOp .Is (.int x t) .none) Q E s := wpAny_is_other (by rfl) (by intro x; cases x) q
theorem tmod_fit {W i j : Int} (hj : -(2 : Int) ^ (W - 1).toNat ≤ j ∧ j < (2 : Int) ^ (W - 1).toNat) (hj0 : j ≠ 0) : -(2 : Int) ^ (W - 1).toNat ≤ i.tmod j ∧ i.tmod j < (2 : Int) ^ (W - 1).toNat := by
  have h1 := Int.natAbs_tmod i j
  have h2 : (i.tmod j).natAbs < j.natAbs := by rw [h1]; exact Nat.mod_lt _ (by omega)
  generalize (2 : Int) ^ (W - 1).toNat = B at *
  omega
end Mine
end
section
open PySem PySem.W PyProof.Rows
namespace Mine
/-- a test that is false, and leaves the frame and the ledger as they stand -/
def QuietP (h₀ : Heap) (L : Addr) (m : Str → Option Value) (news : List (Addr × Obj)) (s : Shared) (b : Bool) (s' : Shared) : Prop :=
  b = false ∧ ∃ h tk, s' = { s with heap := h, toks := tk } ∧ Fr h₀ L h m ∧ News h₀ L h news
theorem quiet {w : World} {A : Around} {E : Value → Shared → Prop} {Q : Bool → Shared → Prop} {s : Shared} {h₀ : Heap} {L : Addr} {m : Str → Option Value} {news : List (Addr × Obj)} {t : Sem Bool}
    (F : Fr h₀ L s.heap m) (N : News h₀ L s.heap news) (h1 : wpAny (model PySem.Challenge.rw_tk0106_01.row.prog w) A t (QuietP h₀ L m news s) E s)
    (h2 : ∀ h tk, Fr h₀ L h m → News h₀ L h news → Q false { s with heap := h, toks := tk }) : wpAny (model PySem.Challenge.rw_tk0106_01.row.prog w) A t Q E s :=
  wpAny_mono h1 (fun b s' ⟨hb, h, tk, hs, F', N'⟩ => by subst hb hs; exact h2 h tk F' N') (fun _ _ x => x)
theorem quiet_end {h₀ : Heap} {L : Addr} {m : Str → Option Value} {news news' : List (Addr × Obj)} {s : Shared} {h : Heap} {tk : Nat} (F : Fr h₀ L h m) (N : News h₀ L h news') (hs : ∀ p ∈ news, p ∈ news') :
    QuietP h₀ L m news s false { s with heap := h, toks := tk } := ⟨rfl, h, tk, rfl, F, fun p hp => N p (hs p hp)⟩
theorem sign_end {a b q c : Int} (d : Dv a b q c) (h0 : c ≠ 0) (h : (decide (c < 0) != decide (a < 0)) = true) : False := by
  have d := d.2.2
  by_cases h1 : c < 0 <;> by_cases h2 : a < 0 <;> simp [h1, h2] at h <;> omega
theorem det_turn {B f g one other sign p0 p1 a0 a1 : Int} {qs : List Int} (I : Inv B f g one other sign p0 p1 a0 a1 qs) (q : Int) : (q * p0 + a0) * p1 - p0 * (q * p1 + a1) = sign := by
  have := I.det
  grind
theorem isnot_val {w : World} {A : Around} {Q E : Value → Shared → Prop} {s : Shared} {W x : Int} {t : Tok}
    (h1 : (-(2 : Int) ^ (W - 1).toNat ≤ x ∧ x < (2 : Int) ^ (W - 1).toNat) → val (fit W x) t = .int x t → Q (.bool true) s) (h2 : val (fit W x) t = .none → Q (.bool false) s) : wpAny (model PySem.Challenge.rw_tk0106_01.row.prog w) A (compareOp .IsNot (val (fit W x) t) .none) Q E s := by
  by_cases h : -(2 : Int) ^ (W - 1).toNat ≤ x ∧ x < (2 : Int) ^ (W - 1).toNat
  · have e := val_some h rfl t
    rw [e]; exact isnot_int (h1 h e)
  · have e := val_none h t
    rw [e]; exact wpAny_isNot_self (by rfl) (h2 e)
theorem isnot_vnone {w : World} {A : Around} {Q E : Value → Shared → Prop} {s : Shared} {t : Tok} (q : Q (.bool false) s) : wpAny (model PySem.Challenge.rw_tk0106_01.row.prog w) A (compareOp .IsNot (val none t) .none) Q E s := wpAny_isNot_self (by rfl) q
theorem islist_of {h₀ h : Heap} {L l : Addr} {news : List (Addr × Obj)} {vs : List Value} {nn : Nat} (N : News h₀ L h news) (hm : (l, PySem.W.listOf vs.toArray nn) ∈ news) : h.IsList l vs.toArray := ⟨_, (N _ hm).1, rfl, nn, rfl⟩
theorem val_cases (W x : Int) (t : Tok) : ((-(2 : Int) ^ (W - 1).toNat ≤ x ∧ x < (2 : Int) ^ (W - 1).toNat) ∧ val (fit W x) t = .int x t) ∨ val (fit W x) t = .none := by
  by_cases h : -(2 : Int) ^ (W - 1).toNat ≤ x ∧ x < (2 : Int) ^ (W - 1).toNat
  · exact .inl ⟨h, val_some h rfl t⟩
  · exact .inr (val_none h t)
end Mine
end
section
open PySem PySem.W PyProof.Rows
namespace Mine
structure Bk where
  b0 : Int
  b1 : Int
  t0 : Tok
  t1 : Tok
  ba : Addr
def tupObj (b0 b1 : Int) (t0 t1 : Tok) : Obj := { cls := .type "tuple", data := .seq #[.int b0 t0, .int b1 t1] }
def bps (c : Bk) : List (Str × Value) := [(Str.ofString "back", .ref c.ba)]
def bfs (l : List (Addr × Obj)) (c : Bk) : Prop := (c.ba, tupObj c.b0 c.b1 c.t0 c.t1) ∈ l
def bP (pre : List Int) (c : Bk) : Prop := (c.b0, c.b1) = act pre.reverse (1, 0)
/-- the end of a turn: one new tuple, all else as it stood -/
def BkEnd (h₀ : Heap) (L : Addr) (news : List (Addr × Obj)) (m₀ : Str → Option Value) (c0 c1 : Int) (s₁ : Shared) (f : Flow) (s₂ : Shared) : Prop :=
  f = .next ∧ ∃ h' tk m' D t0 t1, s₂ = { s₁ with heap := h', toks := tk } ∧ Fr h₀ L h' m' ∧ News h₀ L h' ((D, tupObj c0 c1 t0 t1) :: news) ∧ (∀ p ∈ news, p.1 < D) ∧ m' (Str.ofString "back") = some (.ref D) ∧ ∀ z, z ≠ Str.ofString "quotient" → z ≠ Str.ofString "back" → m' z = m₀ z
/-- the loop over the quotients from the last one back -/
theorem law_back {prog : Program} {w : World} {A : Around} {E : Value → Shared → Prop} {Q : Flow → Shared → Prop} {s : Shared} {env : Env} {h₀ : Heap} {body : List Stmt} {m₀ : Str → Option Value}
    {all : List (Addr × Obj)} {lr pa ba : Addr} {rv : List Value} {rq qs : List Int} {nn : Nat} {t0 t1 t2 t3 : Tok} {B f g one sign p0 p1 a0 a1 : Int}
    (I : Inv B f g one 0 sign p0 p1 a0 a1 qs) (hq : rq = qs.reverse)
    (hh : A.handled = none) (hi : IntsAre rv rq) (F : Fr h₀ env.locals s.heap m₀) (N : News h₀ env.locals s.heap all)
    (kb : m₀ (Str.ofString "back") = some (.ref ba)) (kp : m₀ (Str.ofString "pair") = some (.ref pa))
    (n1 : (lr, PySem.W.listOf rv.toArray nn) ∈ all) (n2 : (pa, tupObj p0 p1 t2 t3) ∈ all) (n3 : (ba, tupObj 1 0 t0 t1) ∈ all)
    (turn : ∀ (b0 b1 n : Int) (t u0 u1 : Tok) (bb : Addr) (u : Str → Option Value) (h : Heap) (tk : Nat) (news : List (Addr × Obj)), (b0.natAbs ≤ 2048 ∧ b1.natAbs ≤ 2048 ∧ n.natAbs ≤ 2048) → (bb, tupObj b0 b1 u0 u1) ∈ news →
      Fr h₀ env.locals h (fun y => if y = Str.ofString "quotient" then some (.int n t) else kstB (fun z => if [].contains z then u z else m₀ z) [(Str.ofString "back", .ref bb)] y) → News h₀ env.locals h news →
      wpAny (model prog w) A (execs body env) (BkEnd h₀ env.locals news m₀ (n * b0 + b1) b0 { s with heap := h, toks := tk }) E { s with heap := h, toks := tk })
    (done : ∀ (u0 u1 : Tok) (bb : Addr) (u : Str → Option Value) h tk (news : List (Addr × Obj)), (bb, tupObj p0 p1 u0 u1) ∈ news → (pa, tupObj p0 p1 t2 t3) ∈ news →
      Fr h₀ env.locals h (fun y => if y = Str.ofString "quotient" then u y else kstB (fun z => if [].contains z then u z else m₀ z) [(Str.ofString "back", .ref bb)] y) → News h₀ env.locals h news → Q .next { s with heap := h, toks := tk }) :
    wpAny (model prog w) A (pyIter (.ref lr)) (fun it s₂ => LoopAtV prog w A h₀ env (Str.ofString "quotient") body Q E it s₂) E s := by
  subst hq
  have _ := kp
  refine kd_listI (fun _ : Bk => []) [(pa, tupObj p0 p1 t2 t3), (lr, PySem.W.listOf rv.toArray nn), (ba, tupObj 1 0 t0 t1)] bps bfs [] bP [pa, lr, ba] ⟨1, 0, t0, t1, ba⟩ hh (List.mem_cons_of_mem _ (List.mem_cons_self ..)) hi F N ?_ (fun _ => rfl) ?_ ?_ ?_ ?_ ?_
  · intro p hp
    simp only [List.nil_append, List.append_nil, List.mem_cons, List.not_mem_nil, or_false] at hp
    rcases hp with rfl | rfl | rfl <;> assumption
  · simp [bfs]
  · intro p hp
    rw [List.mem_singleton.mp hp]; exact kb
  · simp [bP, act]
  · rintro ⟨b0, b1, u0, u1, bb⟩ tl pre post n t u h tk own e - hsep - hf hp F₁ N₁
    have e2 : qs = post.reverse ++ (n :: pre.reverse) := by
      rw [← List.reverse_reverse qs, e]; simp
    have e3 : qs.drop (post.reverse.length + 1) = pre.reverse := by
      rw [e2, List.drop_append]; simp
    have hb := back_small I (post.reverse.length + 1)
    have hp' : (b0, b1) = act pre.reverse (1, 0) := hp
    rw [e3, ← hp'] at hb
    rw [List.nil_append] at N₁
    refine wpAny_mono (turn b0 b1 n t u0 u1 bb u h tk _ ⟨hb.1, hb.2, I.qb n (by rw [e2]; simp)⟩ ?_ F₁ N₁) (fun f s₂ p => ?_) fun _ _ x => x
    · rcases List.mem_append.mp hf with hf | hf
      · exact List.mem_append.mpr (.inl hf)
      · exact List.mem_append.mpr (.inr (List.mem_append.mpr (.inl hf)))
    · obtain ⟨rfl, h', tk', m', D, v0, v1, rfl, F', N', lt, k1, k2⟩ := p
      refine kd_end (Led := fun _ : Bk => []) ⟨n * b0 + b1, b0, v0, v1, D⟩ [(D, tupObj (n * b0 + b1) b0 v0 v1)] hsep F' N' ?_ ?_ rfl ?_ ?_ ?_ ?_ ?_ ?_
      · intro p hp
        rw [List.nil_append] at hp
        rcases List.mem_append.mp hp with hp | hp
        · exact List.mem_cons_of_mem _ (List.mem_append.mpr (.inl hp))
        · rcases List.mem_append.mp hp with hp | hp
          · rw [List.mem_singleton.mp hp]; exact List.mem_cons_self ..
          · exact List.mem_cons_of_mem _ (List.mem_append.mpr (.inr (List.mem_append.mpr (.inl hp))))
      · intro p hp
        exact List.mem_cons_of_mem _ (List.mem_append.mpr (.inr (List.mem_append.mpr (.inr hp))))
      · intro q hq b hb'
        rw [List.mem_singleton.mp hq]
        have hc : ∃ o, (b, o) ∈ [(pa, tupObj p0 p1 t2 t3), (lr, PySem.W.listOf rv.toArray nn), (ba, tupObj 1 0 t0 t1)] := by
          simp only [List.mem_cons, List.not_mem_nil, or_false] at hb'
          rcases hb' with rfl | rfl | rfl
          · exact ⟨_, List.mem_cons_self ..⟩
          · exact ⟨_, List.mem_cons_of_mem _ (List.mem_cons_self ..)⟩
          · exact ⟨_, List.mem_cons_of_mem _ (List.mem_cons_of_mem _ (List.mem_cons_self ..))⟩
        obtain ⟨o, ho⟩ := hc
        exact Nat.ne_of_lt (lt _ (List.mem_append.mpr (.inl ho)))
      · intro q hq p hp
        rw [List.mem_singleton.mp hq]
        exact Nat.ne_of_lt (lt _ (List.mem_append.mpr (.inr (List.mem_append.mpr (.inr hp)))))
      · intro p hp
        rw [List.mem_singleton.mp hp]; exact k1
      · intro z hz hz2 _
        exact k2 z hz (hz2 _ (List.mem_singleton.mpr rfl))
      · exact List.mem_append.mpr (.inr (List.mem_append.mpr (.inl (List.mem_cons_self ..))))
      · show (n * b0 + b1, b0) = act (pre ++ [n]).reverse (1, 0)
        rw [List.reverse_append]
        show (n * b0 + b1, b0) = (n * (act pre.reverse (1, 0)).1 + (act pre.reverse (1, 0)).2, (act pre.reverse (1, 0)).1)
        rw [← hp']
  · rintro ⟨b0, b1, u0, u1, bb⟩ tl u h tk - hf hp F₁ N₁
    have hp' : (b0, b1) = act qs.reverse.reverse (1, 0) := hp
    rw [List.reverse_reverse, (inv_end I).2.2] at hp'
    injection hp' with e1 e2
    subst e1 e2
    rw [List.nil_append] at N₁
    exact done u0 u1 bb u h tk _ hf (List.mem_append.mpr (.inl (List.mem_cons_self ..))) F₁ N₁
theorem bk_end {h₀ h' : Heap} {L : Addr} {news : List (Addr × Obj)} {m₀ m' : Str → Option Value} {c0 c1 : Int} {s₁ : Shared} {tk : Nat} {D : Addr} {t0 t1 : Tok} (F : Fr h₀ L h' m') (N : News h₀ L h' ((D, tupObj c0 c1 t0 t1) :: news)) (lt : ∀ p ∈ news, p.1 < D)
    (k : m' (Str.ofString "back") = some (.ref D)) (hr : ∀ z, z ≠ Str.ofString "quotient" → z ≠ Str.ofString "back" → m' z = m₀ z) : BkEnd h₀ L news m₀ c0 c1 s₁ .next { s₁ with heap := h', toks := tk } := ⟨rfl, h', tk, m', D, t0, t1, rfl, F, N, lt, k, hr⟩
end Mine
end
section
open PySem PySem.W PyProof.Rows
namespace Mine
theorem tup_here {ax : Addr} {its : Array Value} {k : Nat} {news : List (Addr × Obj)} (h : (ax, ({ cls := .type "tuple", data := .seq its k } : Obj)) ∈ news) : TupAt ax its news := ⟨k, h⟩
theorem comp_end {h₀ : Heap} {L I C D : Addr} {m : Str → Option Value} {s₁ : Shared} {oI oC oD : Obj} {S : List (Addr × Obj) → Prop} {rest : Value → List (Addr × Obj) → Prop} {y : Value} {h' : Heap} {tk : Nat} {news' : List (Addr × Obj)}
    (F : Fr h₀ L h' m) (N : News h₀ L h' ((I, oI) :: (C, oC) :: (D, oD) :: news')) (off : LCg.Off3 I C D news') (hS : S news') (r : rest y news') :
    LCg.CompEnd h₀ L m s₁ I oI C oC D oD S rest y { s₁ with heap := h', toks := tk } := ⟨h', tk, news', rfl, F, N, off, hS, r⟩
end Mine
end
open PySem PySem.W PyProof.Rows
namespace Mine
local macro_rules | `(tactic| k_get) => `(tactic| ((with_reducible rename Mine.Tg 2 => mk2); assumption))
local macro_rules | `(tactic| k_room) => `(tactic| ((with_reducible rename Mine.Tg 2 => mk2); ktr_room))
local macro_rules | `(tactic| k_units) => `(tactic| ((with_reducible rename Mine.Tg 2 => mk2); ktr_units))
local macro_rules | `(tactic| k_room) => `(tactic| ((with_reducible rename Mine.Tg 3 => mk3); ktr_room))
local macro_rules | `(tactic| k_units) => `(tactic| ((with_reducible rename Mine.Tg 3 => mk3); ktr_units))
local macro_rules | `(tactic| k_inst) => `(tactic| ((with_reducible rename Mine.Tg 3 => mk3); assumption))
local macro_rules | `(tactic| walk_at "eval Call") => `(tactic| ((with_reducible rename Mine.Tg 1 => mk1); (k_here; k_dflt (refine Call_ ?_))))
local macro_rules | `(tactic| walk_at "call ref") => `(tactic| ((with_reducible rename Mine.Tg 1 => mk1); (k_here; k_dflt (refine wpAny_call ?_; k_enter))))
local macro_rules | `(tactic| k_get) => `(tactic| ((with_reducible rename Mine.Tg 1 => mk1); assumption))
local macro_rules | `(tactic| k_room) => `(tactic| ((with_reducible rename Mine.Tg 1 => mk1); ktr_room))
local macro_rules | `(tactic| k_units) => `(tactic| ((with_reducible rename Mine.Tg 1 => mk1); ktr_units))
local macro_rules | `(tactic| walk_at "call type:str") => `(tactic| ((with_reducible rename Mine.Tg 1 => mk1); (k_here; (with_reducible show wpAny _ _ (call (Value.type "str") [Value.int _ _]) _ _ _); (refine str_of_int (by assumption) ?_))))
set_option hygiene false in
local macro_rules | `(tactic| walk_at "call ref") => `(tactic| ((with_reducible rename Mine.Tg 1 => mk1); (k_here; (with_reducible show wpAny _ _ (call (Value.ref 100) [Value.str _ _, Value.int _ _]) _ _ _); k_dflt (refine' (wot.out) _ _ _ _ _ _ ?hWzz _ _ _ _ _ _ _ _ _ _ _ _ _ _ _ _ _ ?Bzz ?Fzz ?Xzz ?Nzz ?Tzz ?hkzz ?dpzz ?unzz _ ?hizz _ _ ?_; (case Bzz => k_asm); (case Fzz => k_asm); (case Xzz => k_asm); (case Nzz => k_asm); (case Tzz => k_asm); (case hWzz => assumption); (case hizz => assumption); (case hkzz => exact rfl); (case dpzz => ktr_room); (case unzz => ktr_units)); intro t9 h9 tk9 F9 N9; (try k_sweep); (try dsimp only))))
set_option hygiene false in
local macro_rules | `(tactic| walk_at "exec Raise some none") => `(tactic| ((with_reducible rename Mine.Tg 1 => mk1); (k_here; k_dflt (refine' e_RaiseX ?Xzz ((exc_cls.out) _).2 ?hhzz ?_; (case Xzz => k_asm); (case hhzz => exact rfl); k_whole))))
set_option hygiene false in
local macro_rules | `(tactic| walk_at "call ref") => `(tactic| ((with_reducible rename Mine.Tg 1 => mk1); (k_here; (with_reducible show wpAny _ _ (call (Value.ref 34) [Value.int _ _, Value.str _ _]) _ _ _); k_dflt (refine' (mk_exc.out) _ _ _ _ _ _ _ _ _ _ _ _ _ _ _ _ ?Bzz ?Fzz ?Xzz ?Nzz ?Tzz ?hAzz ?hfzz ?hkezz ?dpzz ?unzz _ _ _ _ ?_; (case hAzz => exact rfl); (case hfzz => exact rfl); (case hkezz => exact rfl); (case Bzz => k_asm); (case Fzz => k_asm); (case Xzz => k_asm); (case Nzz => k_asm); (case Tzz => k_asm); (case dpzz => ktr_room); (case unzz => ktr_units)); intro e9 dx9 tp9 tv9 oe9 od9 h9 tk9 hc9 hdx9 hv9 hod9 n91 n92 n93 F9 N9 ne9; (refine ⟨_, _, _, rfl, Frag.In.keeps (by k_asm) (Fr.keep F9), (N9 _ (.head _)).1, hc9, hv9, ?_⟩))))
local macro_rules | `(tactic| walk_at "leaving ref") => `(tactic| ((with_reducible rename Mine.Tg 1 => mk1); (k_here; k_dflt (first
  | (refine' leave_onD ?K ?F ?R ?U ?_; (case R => assumption); (case F => assumption); (case K => assumption); (case U => assumption); k_whole; intro h9 R9 U9)
  | (refine' leave_firstD ?K ?F ?N ?hc ?hdx ?hd ?n1 ?n2 ?n3 ?hn ?_; (case N => assumption); (case F => assumption); (case K => assumption); (case hc => assumption); (case hdx => assumption); (case hd => assumption); (case n1 => assumption); (case n2 => assumption); (case n3 => assumption); (case hn => assumption); k_whole; intro h9 R9 U9)); (try dsimp only at R9 U9 ⊢))))
local macro_rules | `(tactic| walk_at "noteFrame ref") => `(tactic| ((with_reducible rename Mine.Tg 1 => mk1); (k_here; k_dflt (refine' caught_D ?R ?F ?K ?U ?XB ?TB ?D ?T0 ?ex ?q ?_; (case R => assumption); (case F => assumption); (case K => assumption); (case U => assumption); (case XB => assumption); (case TB => assumption); (case D => assumption); (case T0 => first | assumption | exact KtsTurn.refl); (case ex => k_is); (case q => kts_isx); k_whole); intro h9 g9 oe9 vs9 tk9 T9 F9 N9 hc9 hdx9 hd9 K9 X9 P9 D9; (try k_lift K9); (try k_sweep))))
set_option hygiene false in
local macro_rules | `(tactic| walk_at "getAttr ref") => `(tactic| ((with_reducible rename Mine.Tg 1 => mk1); (k_here; (with_reducible show wpAny _ _ (getAttr (Value.ref _) (PySem.Str.ofString "number") _) _ _ _); k_dflt (refine' e_getK ((exc_cls.out) _).2 ?Fzz ?Xzz ?Nzz ?mezz ?mdzz ?hczz ?hdzz ?hdxzz ?hodzz ?_; (case Fzz => k_asm); (case Xzz => k_asm); (case Nzz => k_asm); (case hdxzz => assumption); (case hczz => assumption); (case hdzz => assumption); (case mezz => k_mem); (case mdzz => k_mem); (case hodzz => assumption); k_whole))))
local macro_rules | `(tactic| k_mem) => `(tactic| ((with_reducible rename Mine.Tg 1 => mk1); assumption))
local macro_rules | `(tactic| walk_at "eval Call") => `(tactic| ((with_reducible rename Mine.Tg 4 => mk4); (k_here; k_dflt (refine Call_ ?_))))
local macro_rules | `(tactic| walk_at "call ref") => `(tactic| ((with_reducible rename Mine.Tg 4 => mk4); (k_here; k_dflt (refine wpAny_call ?_; k_enter))))
local macro_rules | `(tactic| k_get) => `(tactic| ((with_reducible rename Mine.Tg 4 => mk4); assumption))
local macro_rules | `(tactic| k_room) => `(tactic| ((with_reducible rename Mine.Tg 4 => mk4); ktr_room))
local macro_rules | `(tactic| k_units) => `(tactic| ((with_reducible rename Mine.Tg 4 => mk4); ktr_units))
local macro_rules | `(tactic| walk_at "call type:str") => `(tactic| ((with_reducible rename Mine.Tg 4 => mk4); (k_here; (with_reducible show wpAny _ _ (call (Value.type "str") [Value.int _ _]) _ _ _); (refine str_of_int (by assumption) ?_))))
set_option hygiene false in
local macro_rules | `(tactic| walk_at "call ref") => `(tactic| ((with_reducible rename Mine.Tg 4 => mk4); (k_here; (with_reducible show wpAny _ _ (call (Value.ref 100) [Value.str _ _, Value.int _ _]) _ _ _); k_dflt (refine' (wot.out) _ _ _ _ _ _ ?hWzz _ _ _ _ _ _ _ _ _ _ _ _ _ _ _ _ _ ?Bzz ?Fzz ?Xzz ?Nzz ?Tzz ?hkzz ?dpzz ?unzz _ ?hizz _ _ ?_; (case Bzz => k_asm); (case Fzz => k_asm); (case Xzz => k_asm); (case Nzz => k_asm); (case Tzz => k_asm); (case hWzz => assumption); (case hizz => assumption); (case hkzz => exact rfl); (case dpzz => ktr_room); (case unzz => ktr_units)); intro t9 h9 tk9 F9 N9; (try k_sweep); (try dsimp only))))
set_option hygiene false in
local macro_rules | `(tactic| walk_at "exec Raise some none") => `(tactic| ((with_reducible rename Mine.Tg 4 => mk4); (k_here; k_dflt (refine' e_RaiseX ?Xzz ((exc_cls.out) _).2 ?hhzz ?_; (case Xzz => k_asm); (case hhzz => exact rfl); k_whole))))
set_option hygiene false in
local macro_rules | `(tactic| walk_at "call ref") => `(tactic| ((with_reducible rename Mine.Tg 4 => mk4); (k_here; (with_reducible show wpAny _ _ (call (Value.ref 34) [Value.int _ _, Value.str _ _]) _ _ _); k_dflt (refine' (mk_exc.out) _ _ _ _ _ _ _ _ _ _ _ _ _ _ _ _ ?Bzz ?Fzz ?Xzz ?Nzz ?Tzz ?hAzz ?hfzz ?hkezz ?dpzz ?unzz _ _ _ _ ?_; (case hAzz => exact rfl); (case hfzz => exact rfl); (case hkezz => exact rfl); (case Bzz => k_asm); (case Fzz => k_asm); (case Xzz => k_asm); (case Nzz => k_asm); (case Tzz => k_asm); (case dpzz => ktr_room); (case unzz => ktr_units)); intro e9 dx9 tp9 tv9 oe9 od9 h9 tk9 hc9 hdx9 hv9 hod9 n91 n92 n93 F9 N9 ne9; (refine ⟨_, _, _, rfl, Frag.In.keeps (by k_asm) (Fr.keep F9), (N9 _ (.head _)).1, hc9, hv9, ?_⟩))))
local macro_rules | `(tactic| walk_at "leaving ref") => `(tactic| ((with_reducible rename Mine.Tg 4 => mk4); (k_here; k_dflt (first
  | (refine' leave_onD ?K ?F ?R ?U ?_; (case R => assumption); (case F => assumption); (case K => assumption); (case U => assumption); k_whole; intro h9 R9 U9)
  | (refine' leave_firstD ?K ?F ?N ?hc ?hdx ?hd ?n1 ?n2 ?n3 ?hn ?_; (case N => assumption); (case F => assumption); (case K => assumption); (case hc => assumption); (case hdx => assumption); (case hd => assumption); (case n1 => assumption); (case n2 => assumption); (case n3 => assumption); (case hn => assumption); k_whole; intro h9 R9 U9)); (try dsimp only at R9 U9 ⊢))))
local macro_rules | `(tactic| walk_at "noteFrame ref") => `(tactic| ((with_reducible rename Mine.Tg 4 => mk4); (k_here; k_dflt (refine' caught_D ?R ?F ?K ?U ?XB ?TB ?D ?T0 ?ex ?q ?_; (case R => assumption); (case F => assumption); (case K => assumption); (case U => assumption); (case XB => assumption); (case TB => assumption); (case D => assumption); (case T0 => first | assumption | exact KtsTurn.refl); (case ex => k_is); (case q => kts_isx); k_whole); intro h9 g9 oe9 vs9 tk9 T9 F9 N9 hc9 hdx9 hd9 K9 X9 P9 D9; (try k_lift K9); (try k_sweep))))
set_option hygiene false in
local macro_rules | `(tactic| walk_at "getAttr ref") => `(tactic| ((with_reducible rename Mine.Tg 4 => mk4); (k_here; (with_reducible show wpAny _ _ (getAttr (Value.ref _) (PySem.Str.ofString "number") _) _ _ _); k_dflt (refine' e_getK ((exc_cls.out) _).2 ?Fzz ?Xzz ?Nzz ?mezz ?mdzz ?hczz ?hdzz ?hdxzz ?hodzz ?_; (case Fzz => k_asm); (case Xzz => k_asm); (case Nzz => k_asm); (case hdxzz => assumption); (case hczz => assumption); (case hdzz => assumption); (case mezz => k_mem); (case mdzz => k_mem); (case hodzz => assumption); k_whole))))
local macro_rules | `(tactic| k_mem) => `(tactic| ((with_reducible rename Mine.Tg 4 => mk4); assumption))
local macro_rules | `(tactic| k_enter) => `(tactic| ((with_reducible rename Mine.Tg 4 => mk4); (refine' code_def ?k1 ?k2 ?k3 ?k4 ?k5 ?kA ?kF ?kK ?k6 ?k7 ?k8 ?k9 ?kB ?_ ?c2 ?c3 ?c4 ?c5; (case kA => exact rfl); (case kF => exact rfl); (case kK => assumption); (case k1 => k_asm); (case k2 => k_asm); (case k3 => k_asm); (case k4 => k_asm); (case k5 => k_asm); (case k6 => k_is); (case k7 => k_is); (case k8 => ktr_room); (case k9 => first | exact BindsTo.of_eq rfl | exact binds_K (by k_in) rfl (by k_is) rfl rfl rfl); (case c5 => decide); (case kB => exact locs rfl); (case c2 => exact rfl); (case c3 => exact rfl); (case c4 => exact rfl); k_whole; intro g' L' h' FG' F' N' B' X' T'; (try dsimp only); (try k_lift B'); (try k_fold))))
local macro_rules | `(tactic| kmk_nums) => `(tactic| ((with_reducible rename Mine.Tg 5 => mk5); first | ((with_reducible refine' kmk_from ?kmi ?kms); (case kmi => l_ints); (case kms => kmk_sign)) | ((with_reducible refine' kmk_upto ?kmi ?kms); (case kmi => l_ints); (case kms => kmk_sign))))
local macro_rules | `(tactic| k_get) => `(tactic| ((with_reducible rename Mine.Tg 5 => mk5); assumption))
set_option hygiene false in
local macro_rules | `(tactic| walk_at "call ref") => `(tactic| ((with_reducible rename Mine.Tg 5 => mk5); (k_here; (with_reducible show wpAny _ _ (call (Value.ref 237) [Value.int _ _]) _ _ _); k_dflt (refine' (mk_world.out) _ _ _ _ _ _ _ _ _ _ _ _ _ _ _ _ _ _ _ _ _ _ ?Bzz ?Fzz ?Xzz ?Nzz ?Tzz ?hkzz ?dpzz ?unzz ?_; (case Bzz => k_asm); (case Fzz => k_asm); (case Xzz => k_asm); (case Nzz => k_asm); (case Tzz => k_asm); (case hkzz => exact rfl); (case dpzz => first | k_room | ktr_room); (case unzz => first | k_units | ktr_units)); intro t9 x9 dx9 es9 n9 h9 tk9 F9 N9 l1 l2 w9; (try k_lt l1); (try k_lt2 l2); (try k_sweep); (try dsimp only))))
local macro_rules | `(tactic| walk_at "CompEnd") => `(tactic| ((with_reducible rename Mine.Tg 6 => mk6); (k_dflt (refine comp_end (by assumption) (by assumption) (by simp only [LCg.Off3, and_true]; assumption) (tup_here (by k_mem)) ?_))))
local macro_rules | `(tactic| size_fits) => `(tactic| ((with_reducible rename Mine.Tg 7 => mk7); first | exact Nat.le_of_ble_eq_true rfl | (simp only [List.size_toArray, sizeLine_eq]; omega)))
local macro_rules | `(tactic| k_get) => `(tactic| ((with_reducible rename Mine.Tg 7 => mk7); assumption))
local macro_rules | `(tactic| walk_at "eval Call") => `(tactic| ((with_reducible rename Mine.Tg 7 => mk7); (k_here; k_dflt (refine Call_ ?_))))
set_option hygiene false in
local macro_rules | `(tactic| walk_at "call ref") => `(tactic| ((with_reducible rename Mine.Tg 7 => mk7); (k_here; (with_reducible show wpAny _ _ (call (Value.ref 262) [Value.ref _, Value.int _ _, Value.int _ _]) _ _ _); (k_dflt (refine' (made_rest.out) _ _ _ _ _ _ _ _ _ _ _ ?hxzz ?hdxzz ?hwzz ?hWzz _ _ _ _ _ _ _ _ _ _ _ _ _ _ _ ?Bzz ?Fzz ?Xzz ?Nzz ?Tzz ?hkzz ?dpzz ?unzz _ _ _ _ ?hizz ?hjzz ?hj0zz ?_; (case Bzz => k_asm); (case Fzz => k_asm); (case Xzz => k_asm); (case Nzz => k_asm); (case Tzz => k_asm); (case hxzz => k_mem); (case hwzz => assumption); (case hdxzz => k_mem); (case hWzz => assumption); (case hkzz => exact rfl); (case dpzz => first | k_room | ktr_room); (case unzz => first | k_units | ktr_units); (case hizz => first | assumption | omega); (case hjzz => first | assumption | omega); (case hj0zz => assumption))); intro t9 h9 tk9 F9 N9; (try k_sweep); (try dsimp only))))
set_option hygiene false in
local macro_rules | `(tactic| walk_at "call ref") => `(tactic| ((with_reducible rename Mine.Tg 7 => mk7); (k_here; (with_reducible show wpAny _ _ (call (Value.ref 248) [Value.ref _, Value.str (Str.ofString "/") _, Value.int _ _, Value.int _ _]) _ _ _); (k_dflt (refine' (made_div.out) _ _ _ _ _ _ _ _ _ _ _ ?hxzz ?hdxzz ?hwzz ?hWzz _ _ _ _ _ _ _ _ _ _ _ _ _ _ _ ?Bzz ?Fzz ?Xzz ?Nzz ?Tzz ?hkzz ?dpzz ?unzz _ _ _ _ _ ?hizz ?hjzz ?hj0zz ?_; (case Bzz => k_asm); (case Fzz => k_asm); (case Xzz => k_asm); (case Nzz => k_asm); (case Tzz => k_asm); (case hxzz => k_mem); (case hwzz => assumption); (case hdxzz => k_mem); (case hWzz => assumption); (case hkzz => exact rfl); (case dpzz => first | k_room | ktr_room); (case unzz => first | k_units | ktr_units); (case hizz => first | assumption | omega); (case hjzz => first | assumption | omega); (case hj0zz => assumption))); intro t9 h9 tk9 F9 N9; (try k_sweep); (try dsimp only))))
set_option hygiene false in
local macro_rules | `(tactic| walk_at "call ref") => `(tactic| ((with_reducible rename Mine.Tg 7 => mk7); (k_here; (with_reducible show wpAny _ _ (call (Value.ref 248) [Value.ref _, Value.str (Str.ofString "+") _, Value.int _ _, Value.int _ _]) _ _ _); (k_dflt (refine' (made_add.out) _ _ _ _ _ _ _ _ _ _ _ ?hxzz ?hdxzz ?hwzz ?hWzz _ _ _ _ _ _ _ _ _ _ _ _ _ _ _ ?Bzz ?Fzz ?Xzz ?Nzz ?Tzz ?hkzz ?dpzz ?unzz _ _ _ _ _ ?hizz ?hjzz ?_; (case Bzz => k_asm); (case Fzz => k_asm); (case Xzz => k_asm); (case Nzz => k_asm); (case Tzz => k_asm); (case hxzz => k_mem); (case hwzz => assumption); (case hdxzz => k_mem); (case hWzz => assumption); (case hkzz => exact rfl); (case dpzz => first | k_room | ktr_room); (case unzz => first | k_units | ktr_units); (case hizz => first | assumption | omega); (case hjzz => first | assumption | omega))); intro t9 h9 tk9 F9 N9; (try k_sweep); (try dsimp only))))
set_option hygiene false in
local macro_rules | `(tactic| walk_at "call ref") => `(tactic| ((with_reducible rename Mine.Tg 7 => mk7); (k_here; (with_reducible show wpAny _ _ (call (Value.ref 248) [Value.ref _, Value.str (Str.ofString "*") _, Value.int _ _, Value.int _ _]) _ _ _); (k_dflt (refine' (made_mul.out) _ _ _ _ _ _ _ _ _ _ _ ?hxzz ?hdxzz ?hwzz ?hWzz _ _ _ _ _ _ _ _ _ _ _ _ _ _ _ ?Bzz ?Fzz ?Xzz ?Nzz ?Tzz ?hkzz ?dpzz ?unzz _ _ _ _ _ ?hizz ?hjzz ?_; (case Bzz => k_asm); (case Fzz => k_asm); (case Xzz => k_asm); (case Nzz => k_asm); (case Tzz => k_asm); (case hxzz => k_mem); (case hwzz => assumption); (case hdxzz => k_mem); (case hWzz => assumption); (case hkzz => exact rfl); (case dpzz => first | k_room | ktr_room); (case unzz => first | k_units | ktr_units); (case hizz => first | assumption | omega); (case hjzz => first | assumption | omega))); intro t9 h9 tk9 F9 N9; (try k_sweep); (try dsimp only))))
set_option hygiene false in
local macro_rules | `(tactic| walk_at "call ref") => `(tactic| ((with_reducible rename Mine.Tg 7 => mk7); (k_here; (with_reducible show wpAny _ _ (call (Value.ref 255) [Value.ref _, Value.str (Str.ofString "/") _, Value.int _ _, Value.int _ _]) _ _ _); (k_dflt (refine' (due_div.out) _ _ _ _ _ _ _ _ _ _ _ ?hxzz ?hdxzz ?hwzz ?hWzz _ _ _ _ _ _ _ _ _ _ _ _ _ _ _ ?Bzz ?Fzz ?Xzz ?Nzz ?Tzz ?hkzz ?dpzz ?unzz _ _ _ _ _ ?hizz ?hjzz ?hj0zz ?_; (case Bzz => k_asm); (case Fzz => k_asm); (case Xzz => k_asm); (case Nzz => k_asm); (case Tzz => k_asm); (case hxzz => k_mem); (case hwzz => assumption); (case hdxzz => k_mem); (case hWzz => assumption); (case hkzz => exact rfl); (case dpzz => first | k_room | ktr_room); (case unzz => first | k_units | ktr_units); (case hizz => first | assumption | omega); (case hjzz => first | assumption | omega); (case hj0zz => assumption))); intro t9 h9 tk9 F9 N9; (try k_sweep); (try dsimp only))))
set_option hygiene false in
local macro_rules | `(tactic| walk_at "call ref") => `(tactic| ((with_reducible rename Mine.Tg 7 => mk7); (k_here; (with_reducible show wpAny _ _ (call (Value.ref 255) [Value.ref _, Value.str (Str.ofString "+") _, Value.int _ _, Value.int _ _]) _ _ _); (k_dflt (refine' (due_add.out) _ _ _ _ _ _ _ _ _ _ _ ?hxzz ?hdxzz ?hwzz ?hWzz _ _ _ _ _ _ _ _ _ _ _ _ _ _ _ ?Bzz ?Fzz ?Xzz ?Nzz ?Tzz ?hkzz ?dpzz ?unzz _ _ _ _ _ ?hizz ?hjzz ?_; (case Bzz => k_asm); (case Fzz => k_asm); (case Xzz => k_asm); (case Nzz => k_asm); (case Tzz => k_asm); (case hxzz => k_mem); (case hwzz => assumption); (case hdxzz => k_mem); (case hWzz => assumption); (case hkzz => exact rfl); (case dpzz => first | k_room | ktr_room); (case unzz => first | k_units | ktr_units); (case hizz => first | assumption | omega); (case hjzz => first | assumption | omega))); intro t9 h9 tk9 F9 N9; (try k_sweep); (try dsimp only))))
set_option hygiene false in
local macro_rules | `(tactic| walk_at "call ref") => `(tactic| ((with_reducible rename Mine.Tg 7 => mk7); (k_here; (with_reducible show wpAny _ _ (call (Value.ref 255) [Value.ref _, Value.str (Str.ofString "*") _, Value.int _ _, Value.int _ _]) _ _ _); (k_dflt (refine' (due_mul.out) _ _ _ _ _ _ _ _ _ _ _ ?hxzz ?hdxzz ?hwzz ?hWzz _ _ _ _ _ _ _ _ _ _ _ _ _ _ _ ?Bzz ?Fzz ?Xzz ?Nzz ?Tzz ?hkzz ?dpzz ?unzz _ _ _ _ _ ?hizz ?hjzz ?_; (case Bzz => k_asm); (case Fzz => k_asm); (case Xzz => k_asm); (case Nzz => k_asm); (case Tzz => k_asm); (case hxzz => k_mem); (case hwzz => assumption); (case hdxzz => k_mem); (case hWzz => assumption); (case hkzz => exact rfl); (case dpzz => first | k_room | ktr_room); (case unzz => first | k_units | ktr_units); (case hizz => first | assumption | omega); (case hjzz => first | assumption | omega))); intro t9 h9 tk9 F9 N9; (try k_sweep); (try dsimp only))))
set_option hygiene false in
local macro_rules | `(tactic| walk_at "call ref") => `(tactic| ((with_reducible rename Mine.Tg 7 => mk7); (k_here; (with_reducible show wpAny _ _ (call (Value.ref 248) [Value.ref _, Value.str (Str.ofString "/") _, Value.int _ _, Value.int 0 _]) _ _ _); (k_dflt (refine' (made_div0.out) _ _ _ _ _ _ _ _ _ _ _ ?hxzz ?hdxzz ?hwzz ?hWzz _ _ _ _ _ _ _ _ _ _ _ _ _ _ _ ?Bzz ?Fzz ?Xzz ?Nzz ?Tzz ?hkzz ?dpzz ?unzz _ _ _ _ ?hizz ?_; (case Bzz => k_asm); (case Fzz => k_asm); (case Xzz => k_asm); (case Nzz => k_asm); (case Tzz => k_asm); (case hxzz => k_mem); (case hwzz => assumption); (case hdxzz => k_mem); (case hWzz => assumption); (case hkzz => exact rfl); (case dpzz => first | k_room | ktr_room); (case unzz => first | k_units | ktr_units); (case hizz => first | assumption | omega))); intro t9 h9 tk9 F9 N9; (try k_sweep); (try dsimp only))))
set_option hygiene false in
local macro_rules | `(tactic| walk_at "call ref") => `(tactic| ((with_reducible rename Mine.Tg 7 => mk7); (k_here; (with_reducible show wpAny _ _ (call (Value.ref 262) [Value.ref _, Value.int _ _, Value.int 0 _]) _ _ _); (k_dflt (refine' (made_rest0.out) _ _ _ _ _ _ _ _ _ _ _ ?hxzz ?hdxzz ?hwzz ?hWzz _ _ _ _ _ _ _ _ _ _ _ _ _ _ _ ?Bzz ?Fzz ?Xzz ?Nzz ?Tzz ?hkzz ?dpzz ?unzz _ _ _ ?hizz ?_; (case Bzz => k_asm); (case Fzz => k_asm); (case Xzz => k_asm); (case Nzz => k_asm); (case Tzz => k_asm); (case hxzz => k_mem); (case hwzz => assumption); (case hdxzz => k_mem); (case hWzz => assumption); (case hkzz => exact rfl); (case dpzz => first | k_room | ktr_room); (case unzz => first | k_units | ktr_units); (case hizz => first | assumption | omega))); intro t9 h9 tk9 F9 N9; (try k_sweep); (try dsimp only))))
set_option hygiene false in
local macro_rules | `(tactic| walk_at "call ref") => `(tactic| ((with_reducible rename Mine.Tg 7 => mk7); (k_here; (with_reducible show wpAny _ _ (call (Value.ref 262) [Value.ref _, Value.int _ _, Value.int _ _]) _ _ _); (k_dflt (refine' (made_restI.out) _ _ _ _ _ _ _ _ _ _ _ ?hxzz ?hdxzz ?hwzz ?hWzz _ _ _ _ _ _ _ _ _ _ _ _ _ _ _ ?Bzz ?Fzz ?Xzz ?Nzz ?Tzz ?hkzz ?dpzz ?unzz _ _ _ _ ?hizz ?hjzz ?hj0zz ?_; (case Bzz => k_asm); (case Fzz => k_asm); (case Xzz => k_asm); (case Nzz => k_asm); (case Tzz => k_asm); (case hxzz => k_mem); (case hwzz => assumption); (case hdxzz => k_mem); (case hWzz => assumption); (case hkzz => exact rfl); (case dpzz => first | k_room | ktr_room); (case unzz => first | k_units | ktr_units); (case hizz => first | assumption | omega); (case hjzz => first | assumption | omega); (case hj0zz => assumption))); intro t9 h9 tk9 F9 N9; (try k_sweep); (try dsimp only))))
set_option hygiene false in
local macro_rules | `(tactic| walk_at "call ref") => `(tactic| ((with_reducible rename Mine.Tg 7 => mk7); (k_here; (with_reducible show wpAny _ _ (call (Value.ref 248) [Value.ref _, Value.str (Str.ofString "/") _, Value.int _ _, Value.int _ _]) _ _ _); (k_dflt (refine' (made_divS.out) _ _ _ _ _ _ _ _ _ _ _ ?hxzz ?hdxzz ?hwzz ?hWzz _ _ _ _ _ _ _ _ _ _ _ _ _ _ _ ?Bzz ?Fzz ?Xzz ?Nzz ?Tzz ?hkzz ?dpzz ?unzz _ _ _ _ _ ?hizz ?hjzz ?hj0zz ?hszz ?hnzz; (case Bzz => k_asm); (case Fzz => k_asm); (case Xzz => k_asm); (case Nzz => k_asm); (case Tzz => k_asm); (case hxzz => k_mem); (case hwzz => assumption); (case hdxzz => k_mem); (case hWzz => assumption); (case hkzz => exact rfl); (case dpzz => first | k_room | ktr_room); (case unzz => first | k_units | ktr_units); (case hizz => first | assumption | omega); (case hjzz => first | assumption | omega); (case hj0zz => assumption))) <;> (intro q9 t9 h9 tk9 F9 N9; (try k_sweep); (try dsimp only)))))
set_option hygiene false in
local macro_rules | `(tactic| walk_at "call ref") => `(tactic| ((with_reducible rename Mine.Tg 7 => mk7); (k_here; (with_reducible show wpAny _ _ (call (Value.ref 255) [Value.ref _, Value.str (Str.ofString "/") _, Value.int _ _, Value.int _ _]) _ _ _); (k_dflt (refine' (due_divI.out) _ _ _ _ _ _ _ _ _ _ _ ?hxzz ?hdxzz ?hwzz ?hWzz _ _ _ _ _ _ _ _ _ _ _ _ _ _ _ ?Bzz ?Fzz ?Xzz ?Nzz ?Tzz ?hkzz ?dpzz ?unzz _ _ _ _ _ ?hizz ?hjzz ?hj0zz ?hqzz ?_; (case hqzz => assumption); (case Bzz => k_asm); (case Fzz => k_asm); (case Xzz => k_asm); (case Nzz => k_asm); (case Tzz => k_asm); (case hxzz => k_mem); (case hwzz => assumption); (case hdxzz => k_mem); (case hWzz => assumption); (case hkzz => exact rfl); (case dpzz => first | k_room | ktr_room); (case unzz => first | k_units | ktr_units); (case hizz => first | assumption | omega); (case hjzz => first | assumption | omega); (case hj0zz => assumption))); intro t9 h9 tk9 F9 N9; (try k_sweep); (try dsimp only))))
set_option hygiene false in
local macro_rules | `(tactic| walk_at "call ref") => `(tactic| ((with_reducible rename Mine.Tg 7 => mk7); (k_here; (with_reducible show wpAny _ _ (call (Value.ref 255) [Value.ref _, Value.str (Str.ofString "/") _, Value.int _ _, Value.int _ _]) _ _ _); (k_dflt (refine' (due_divN.out) _ _ _ _ _ _ _ _ _ _ _ ?hxzz ?hdxzz ?hwzz ?hWzz _ _ _ _ _ _ _ _ _ _ _ _ _ _ _ ?Bzz ?Fzz ?Xzz ?Nzz ?Tzz ?hkzz ?dpzz ?unzz _ _ _ _ _ ?hizz ?hjzz ?hj0zz ?hqzz ?_; (case hqzz => assumption); (case Bzz => k_asm); (case Fzz => k_asm); (case Xzz => k_asm); (case Nzz => k_asm); (case Tzz => k_asm); (case hxzz => k_mem); (case hwzz => assumption); (case hdxzz => k_mem); (case hWzz => assumption); (case hkzz => exact rfl); (case dpzz => first | k_room | ktr_room); (case unzz => first | k_units | ktr_units); (case hizz => first | assumption | omega); (case hjzz => first | assumption | omega); (case hj0zz => assumption))); intro t9 h9 tk9 F9 N9; (try k_sweep); (try dsimp only))))
local macro_rules | `(tactic| walk_at "compareOp NotEq") => `(tactic| ((with_reducible rename Mine.Tg 7 => mk7); (k_here; k_dflt (refine ne_val ?_))))
local macro_rules | `(tactic| walk_at "compareOp IsNot") => `(tactic| ((with_reducible rename Mine.Tg 7 => mk7); (k_here; k_dflt (refine isnot_int ?_))))
local macro_rules | `(tactic| walk_at "compareOp Is") => `(tactic| ((with_reducible rename Mine.Tg 7 => mk7); (k_here; k_dflt (refine is_int_none ?_))))
local macro_rules | `(tactic| walk_at "compareOp IsNot") => `(tactic| ((with_reducible rename Mine.Tg 7 => mk7); (k_here; k_dflt (refine isnot_vnone ?_))))
def x.tw9471003062986669584 : Nat := 0
def x.tw11909432756023841439 : Nat := 0
def x.tw6164925503713636432 : Nat := 0
def x.tw11031206448544099030 : Nat := 0
def x.tw14690142657617675069 : Nat := 0
def x.tw16907890335450302329 : Nat := 0
def x.tw18382732935176489910 : Nat := 0
def x.tw4328419334267003485 : Nat := 0
def x.tw15627156436042902054 : Nat := 0
def x.tw17681531062083462765 : Nat := 0
def x.tw16343485113875459693 : Nat := 0
def x.tw5808590020691599037 : Nat := 0
def x.tw3831913772305849713 : Nat := 0
def x.tw6123255989475841923 : Nat := 0
def x.tw1827084678064225812 : Nat := 0
def x.tw6931795903576569165 : Nat := 0
def x.tw16301126859146522986 : Nat := 0
def x.tw1762852492130322403 : Nat := 0
def x.tw9616533626679607072 : Nat := 0
def x.tw3466878022938733119 : Nat := 0
def x.tw2344784603320869138 : Nat := 0
def x.tw6588813947059410101 : Nat := 0
def x.tw8604951737876342204 : Nat := 0
def x.tw6534115796685660426 : Nat := 0
def x.tw16203776201559779557 : Nat := 0
def x.tw17203731521321720278 : Nat := 0
def x.tw10724780829119155504 : Nat := 0
def x.tw6285597482471829586 : Nat := 0
def x.tw8770850211004502190 : Nat := 0
def x.tw9858674147946454049 : Nat := 0
def x.tw13404080080569854418 : Nat := 0
def x.tw16556348584133028553 : Nat := 0
def x.tw17242950417522690955 : Nat := 0
def x.tw7670066692240471240 : Nat := 0
def x.tw10998017406588778082 : Nat := 0
def x.tw7857180285829313160 : Nat := 0
def x.tw6858793815429618512 : Nat := 0
def x.tw5602930417054111180 : Nat := 0
def x.tw2877658537131324672 : Nat := 0
def x.tw13553900463325113796 : Nat := 0
def x.tw7154660803688209970 : Nat := 0
def x.tw3461889752873945555 : Nat := 0
def x.tw13367855428709287406 : Nat := 0
def x.tw7518089445212344763 : Nat := 0
def x.tw11152688277256578661 : Nat := 0
def x.tw13362353034491935905 : Nat := 0
def x.tw13139566152826953669 : Nat := 0
def x.tw4298905093436458867 : Nat := 0
def x.tw12387249792668917091 : Nat := 0
def x.tw4759826556922766526 : Nat := 0
def x.tw15960217252020907611 : Nat := 0
def x.tw13911296529826804998 : Nat := 0
def x.tw18193032549937625168 : Nat := 0
def x.tw4771511689829691791 : Nat := 0
def x.tw16883198435377461662 : Nat := 0
def x.tw5734102074270020093 : Nat := 0
def x.tw7697755396396250407 : Nat := 0
def x.tw7559125970190141524 : Nat := 0
def x.tw3539669927792657173 : Nat := 0
def x.tw13757659492081354683 : Nat := 0
def x.tw14816229990928203272 : Nat := 0
def x.tw8719130420221826889 : Nat := 0
def x.tw17688354173212926204 : Nat := 0
def x.tw12924040417176290631 : Nat := 0
def x.tw11508047845633804919 : Nat := 0
def x.tw9275346360590289224 : Nat := 0
def x.tw8834734013172818746 : Nat := 0
def x.tw4299154929937433062 : Nat := 0
def x.tw13407300215643200283 : Nat := 0
def x.tw7158884164066108494 : Nat := 0
def x.tw17493980709996516748 : Nat := 0
def x.tw16312127453373237007 : Nat := 0
def x.tw4694664066096678178 : Nat := 0
def x.tw12432819272207377467 : Nat := 0
def x.tw3057805363477927155 : Nat := 0
def x.tw11567505412842260901 : Nat := 0
def x.tw11056226911114484436 : Nat := 0
def x.tw16219133078508084671 : Nat := 0
def x.tw9095761204093048882 : Nat := 0
def x.tw2080181832756378157 : Nat := 0
def x.tw5624581029892550738 : Nat := 0
def x.tw3381116527526471741 : Nat := 0
def x.tw9967297903219515893 : Nat := 0
def x.tw9430903384709548213 : Nat := 0
def x.tw13087808948546464045 : Nat := 0
def x.tw5581037827576068036 : Nat := 0
def x.tw3823393467520340937 : Nat := 0
def x.tw9087499442634988833 : Nat := 0
def x.tw17090399368757476015 : Nat := 0
def x.tw11238088504442425704 : Nat := 0
def x.tw4726649939641546272 : Nat := 0
def x.tw17741651821863825309 : Nat := 0
def x.tw2526065683336569023 : Nat := 0
def x.tw49713287916457498 : Nat := 0
def x.tw2031537917373578216 : Nat := 0
def x.tw14939703982172950363 : Nat := 0
def x.tw12549659723121084872 : Nat := 0
def x.tw13895047746455341852 : Nat := 0
def x.tw16530866331073812311 : Nat := 0
def x.tw13313892878447484956 : Nat := 0
def x.tw6802943048862258988 : Nat := 0
def x.tw16620959984405672424 : Nat := 0
def x.tw12715434463041855949 : Nat := 0
def x.tw12357257306730215335 : Nat := 0
def x.tw9579657653914677203 : Nat := 0
def x.tw6290921284420106355 : Nat := 0
def x.tw5649184971023305162 : Nat := 0
def x.tw17334005214373140102 : Nat := 0
def x.tw13348930880337077077 : Nat := 0
def x.tw11996299347161798078 : Nat := 0
def x.tw7932533990442072677 : Nat := 0
def x.tw3151297232678651169 : Nat := 0
def x.tw10882022406747698613 : Nat := 0
def x.tw2714216656829531595 : Nat := 0
def x.tw1076621120908848105 : Nat := 0
def x.tw9910429298768363764 : Nat := 0
def x.tw9715274367083955807 : Nat := 0
def x.tw11833552190071727148 : Nat := 0
def x.tw5437396367860926943 : Nat := 0
def x.tw11802279843911420041 : Nat := 0
def x.tw9414052845115507666 : Nat := 0
def x.tw1261695478015965603 : Nat := 0
def x.tw4109133943812738124 : Nat := 0
def x.tw2158287766650901963 : Nat := 0
def x.tw4203466863050935155 : Nat := 0
def x.tw2488568755365922908 : Nat := 0
def x.tw12063771883288316417 : Nat := 0
def x.tw15606782457214070813 : Nat := 0
def x.tw1139522334345932651 : Nat := 0
def x.tw18009941181672653003 : Nat := 0
def x.tw17275957359131114796 : Nat := 0
def x.tw16784924497452670408 : Nat := 0
def x.tw12787705279609391932 : Nat := 0
def x.tw3933397803148660768 : Nat := 0
def x.tw8546214764176123718 : Nat := 0
def x.tw2070596085503899165 : Nat := 0
def x.tw9423116016098024916 : Nat := 0
def x.tw5275940119117121244 : Nat := 0
def x.tw15770187537463389305 : Nat := 0
def x.tw9211440058168996849 : Nat := 0
def x.tw6805995646604004565 : Nat := 0
def x.tw15533313513226432012 : Nat := 0
def x.tw10466111936039050714 : Nat := 0
def x.tw2501844482822224543 : Nat := 0
def x.tw10413092625324450665 : Nat := 0
def x.tw9989011559646604282 : Nat := 0
def x.tw3086963543650188869 : Nat := 0
def x.tw16970199785153951619 : Nat := 0
def x.tw3562481739686499562 : Nat := 0
def x.tw13995897299514615827 : Nat := 0
def x.tw11830229877695963470 : Nat := 0
def x.tw11445603533893094434 : Nat := 0
def x.tw9734139578838640468 : Nat := 0
def x.tw5285631970104304785 : Nat := 0
def x.tw4654139819506748638 : Nat := 0
def x.tw16344940085568571254 : Nat := 0
def x.tw16787196963380032622 : Nat := 0
def x.tw6946233028526211146 : Nat := 0
def x.tw4516934810934743915 : Nat := 0
def x.tw17654450329316414843 : Nat := 0
def x.tw12401680339523607464 : Nat := 0
def x.tw11038676408500184233 : Nat := 0
def x.tw7851465932976235069 : Nat := 0
def x.tw1396802460559073154 : Nat := 0
def x.tw18014105477128201965 : Nat := 0
def x.tw16193708197277403873 : Nat := 0
def x.tw13681343968574968315 : Nat := 0
def x.tw11675175551037193828 : Nat := 0
def x.tw9066077841748542883 : Nat := 0
def x.tw4927466292544012243 : Nat := 0
def x.tw2184305600173372038 : Nat := 0
def x.tw9725382588578855575 : Nat := 0
def x.tw18256774291305713310 : Nat := 0
def x.tw17688814690812621077 : Nat := 0
def x.tw11343254904205467920 : Nat := 0
def x.tw3190763850416584886 : Nat := 0
def x.tw10480007635166841858 : Nat := 0
def x.tw8955554126749809316 : Nat := 0
def x.tw6762002137794617793 : Nat := 0
def x.tw5927625692709969301 : Nat := 0
def x.tw2994759592192515869 : Nat := 0
def x.tw2180225598519881482 : Nat := 0
def x.tw13286133675680583024 : Nat := 0
def x.tw6024237633146544035 : Nat := 0
def x.tw6626372317466925969 : Nat := 0
def x.tw6217951716010286405 : Nat := 0
def x.tw3074589843187163427 : Nat := 0
def x.tw15463307242940609706 : Nat := 0
def x.tw18244996135818526801 : Nat := 0
def x.tw9512345847452006689 : Nat := 0
def x.tw9480908233335186302 : Nat := 0
def x.tw9395590017629532570 : Nat := 0
def x.tw9253478511937957935 : Nat := 0
def x.tw9139255790431897975 : Nat := 0
def x.tw8862085202078358756 : Nat := 0
def x.tw8736992419225296177 : Nat := 0
def x.tw8295769145949407962 : Nat := 0
def x.tw8129337695813753353 : Nat := 0
def x.tw8008398115293277242 : Nat := 0
def x.tw7367044692127031712 : Nat := 0
def x.tw7338171149653478835 : Nat := 0
def x.tw7330704383911361091 : Nat := 0
def x.tw6995121177932976223 : Nat := 0
def x.tw6929816814765896908 : Nat := 0
def x.tw6767476802192174378 : Nat := 0
def x.tw6216037086288334870 : Nat := 0
def x.tw5410891375964392537 : Nat := 0
def x.tw5392971455435801587 : Nat := 0
def x.tw5291674161435922711 : Nat := 0
def x.tw5234200816470371192 : Nat := 0
def x.tw5090975748541532068 : Nat := 0
def x.tw50765603190942054 : Nat := 0
def x.tw4642934215371500760 : Nat := 0
def x.tw4003381714396428845 : Nat := 0
def x.tw319455692255987101 : Nat := 0
def x.tw2941005166873331770 : Nat := 0
def x.tw2826027730710671101 : Nat := 0
def x.tw2549776721130494238 : Nat := 0
def x.tw2511845003084617712 : Nat := 0
def x.tw2297875269983110331 : Nat := 0
def x.tw2149461152611864792 : Nat := 0
def x.tw1902994482729452793 : Nat := 0
def x.tw18240647713423042901 : Nat := 0
def x.tw17556134957864280480 : Nat := 0
def x.tw17394527227752172927 : Nat := 0
def x.tw17235282440714445331 : Nat := 0
def x.tw17022340367501224674 : Nat := 0
def x.tw16681757536518889665 : Nat := 0
def x.tw1662353425484187019 : Nat := 0
def x.tw16617684350325261552 : Nat := 0
def x.tw16171945164727132587 : Nat := 0
def x.tw15291912424312321969 : Nat := 0
def x.tw15100461006478070828 : Nat := 0
def x.tw14999265818433713255 : Nat := 0
def x.tw14662017234343769399 : Nat := 0
def x.tw14527931800672545638 : Nat := 0
def x.tw14495197485289896433 : Nat := 0
def x.tw14368359798748637774 : Nat := 0
def x.tw13983588808995212183 : Nat := 0
def x.tw13858607164585766432 : Nat := 0
def x.tw13824257015375245630 : Nat := 0
def x.tw13657006849385425660 : Nat := 0
def x.tw13151638145551511817 : Nat := 0
def x.tw12772063586948721766 : Nat := 0
def x.tw12757561806736355991 : Nat := 0
def x.tw12620965543213870692 : Nat := 0
def x.tw1257233205287073285 : Nat := 0
def x.tw12300088240222704753 : Nat := 0
def x.tw1225929995692072060 : Nat := 0
def x.tw10371146168739184225 : Nat := 0
def x.tw10143683596295001876 : Nat := 0
set_option Elab.async true in
set_option maxRecDepth 100000 in
set_option maxHeartbeats 0 in
theorem x : PySem.Challenge.rw_tk0106_01.Holds := by
  w_on; o_law; k_head; (case hw => w_witness2)
  have exc_cls : Mine.Hide (∀ (w : World),
   (PySem.Challenge.rw_tk0106_01 = PySem.Challenge.rw_tk0106_01) ∧ ExcCls (Mine.x.heap_1_39 w.params)) := by
    as_aux_lemma =>
      apply Classical.byContradiction
      intro hN0
      apply_assumption (exfalso := false) (symm := false) only [(((by
        apply hN0
        clear hN0
        w_top off
        have mk0 : Mine.Tg 0 := ⟨trivial⟩
        refine ⟨?_⟩
        intro w
        k_fill
        refine ⟨rfl, ?_⟩
        have hlk : ∃ o, (Mine.x.heap_1_39 w.params).lookup 34 = some o ∧ ∃ (nm qn : Str) (bs : List Value) (sn : List Str) (sub : List Value) (ab : Bool) (col : Option Bool) (dd : Option Addr) (k0 k1 k2 k3 k5 : Option Value), o = (excClassObj nm qn 34 33 bs [.type "Exception", .type "BaseException", .type "object"] true sn sub ab col dd k0 k1 k2 k3 k5 "Exception.__new__") :=
          ⟨_, by k_is, _, _, _, _, _, _, _, _, _, _, _, _, _, rfl⟩
        obtain ⟨o34, hlk, nm, qn, bs, sn, sub, ab, col, dd, k0, k1, k2, k3, k5, rfl⟩ := hlk
        exact ⟨⟨nm, qn, bs, sn, sub, ab, col, dd, k0, k1, k2, k3, k5, hlk⟩, by kernel_rfl, by k_is, by k_is, by k_is, by k_is, by k_is, by k_is⟩) : False) :)]
  have mk_exc : Mine.Hide (∀ (w : World)
   (mean : ExcName → Option Value)
   (mg mb : Str → Option Value)
   (news : List (Addr × Obj))
   (A : Around)
   (env : Env)
   (outer : List Env)
   (A₀ : Around)
   (base h₀ : Heap)
   (L : Addr)
   (m : Str → Option Value)
   (s : Shared)
   (Q E : Value → Shared → Prop)
   (B : Below A₀ base outer h₀)
   (F : Fr h₀ L s.heap m)
   (X : (Mine.x.heap_1_39 w.params).In h₀)
   (N : News h₀ L s.heap news)
   (T : Top Mine.x.view_1_40 (looseW Mine.x.view_1_40 [Str.ofString "SnobolError"]) mean mg mb h₀)
   (hA : A.frames = some (env :: outer))
   (hf : env.frame = some L)
   (hke : env.scope.kind = .function)
   (hdp : A.depth + 10 < recursionLimit)
   (hun : A.units + 60 < cLine)
   (num : Int)
   (told : Str)
   (t1 t2 : Tok)
   (hret : ∀ (e dx tp : Addr) (tv : Value) (oe od : Obj) (h' : Heap) (tk' : Nat), oe.cls = .ref 34 → oe.dict = some dx → oe.data = .fields (exVs tp) → (∀ hh : Heap, hh.get? dx = some od → ∃ mA, hh.Ns1 dx mA ∧ mA "number" = some (.int num t1)) →
      e ≠ dx → e ≠ tp → dx ≠ tp → Fr h₀ L h' m → News h₀ L h' ((e, oe) :: (dx, od) :: (tp, tupO [tv]) :: news) → (∀ p ∈ news, p.1 ≠ e ∧ p.1 ≠ dx ∧ p.1 ≠ tp) → Q (.ref e) { s with heap := h', toks := tk' }),
   wpAny (model PySem.Challenge.rw_tk0106_01.row.prog w) A (call (.ref 34) [.int num t1, .str told t2]) Q E s) := by
    as_aux_lemma =>
      apply Classical.byContradiction
      intro hN0
      apply_assumption (exfalso := false) (symm := false) only [(((by
        apply hN0
        clear hN0
        w_top off
        have mk3 : Mine.Tg 3 := ⟨trivial⟩
        refine ⟨?_⟩
        intro w mean mg mb news A env outer A₀ base h₀ L m s Q E B F X N T hA hf hke hdp hun num told t1 t2 hret
        revert X; k_fill; intro X
        obtain ⟨h, g, d, tk, os⟩ := s
        have XS : (Mine.x.heap_1_39 w.params).In h := X.keeps F.keep
        have KC : ExcCls (Mine.x.heap_1_39 w.params) := ((exc_cls.out) w).2
        obtain ⟨nm, qn, bs, sn, sub, ab, col, dd, k0, k1, k2, k3, k5, mN, hC, hn, hi, -⟩ := e_there KC XS
        have hfI : ∃ oI, (Mine.x.heap_1_39 w.params).lookup 31 = some oI ∧ oI.cls = .type "function" := ⟨_, by k_is, rfl⟩
        obtain ⟨oI, hfI, hfc⟩ := hfI
        have hsup : ks_superIn (Mine.x.heap_1_39 w.params) 34 34 "__init__" = some (some (.builtin "Exception.__init__")) := by ks_is
        have hthird : nsIn (Mine.x.heap_1_39 w.params) cStatics "thirdparty.any" = some none := by k_is
        refine wpAny_call_exc_init PySem.F.excBase_Exception hC hn hi (XS _ _ hfI) hfc fun h₁ e hm => ?_
        obtain ⟨tp0, he1, htn, ht1⟩ := hm.there
        have F1 : Fr h₀ L h₁ m := F.keeps hm.keeps
        have hL : L < h.objs.size := by obtain ⟨o, _, _, ho, _⟩ := F.ns; exact Heap.lt_size ho
        have fresh : ∀ {b : Addr}, h.get? b = none → h₀.get? b = none := fun {b} hb => by
          cases q : h₀.get? b with
          | none => rfl
          | some o => have := F.keep b o q; rw [hb] at this; cases this
        have nL : ∀ {b : Addr}, h.get? b = none → b ≠ L := fun {b} hb q => by
          obtain ⟨o, _, _, ho, _⟩ := F.ns
          rw [← q, hb] at ho
          cases ho
        have nN : ∀ {b : Addr}, h.get? b = none → ∀ p ∈ news, p.1 ≠ b := fun {b} hb p hp q => by
          have := (N p hp).1
          rw [q, hb] at this
          cases this
        have N1 : News h₀ L h₁ ((e, ex0 tp0) :: (tp0, tupO [.int num t1, .str told t2]) :: news) := by
          intro p hp
          rcases List.mem_cons.mp hp with rfl | hp
          · exact ⟨he1, nL hm.new, fresh hm.new⟩
          · rcases List.mem_cons.mp hp with rfl | hp
            · exact ⟨ht1, nL htn, fresh htn⟩
            · exact ⟨hm.keeps _ _ (N p hp).1, (N p hp).2⟩
        refine wpAny_call ?_
        refine' ks_code_super (env := env) (outer := outer) B F1 X N1 T ?kAzz hf hke ?k6zz ?k7zz ?k8zz ?k9zz ?kBzz ?_ ?c1zz ?c2zz ?c3zz ?c4zz
        case kAzz => exact hA
        case k6zz => k_dflt k_is
        case k7zz => k_dflt k_is
        case k8zz => rw [depth_under_make]; omega
        case k9zz => k_dflt (exact binds_K (X.keeps F1.keep) rfl (by k_is) rfl rfl rfl)
        case kBzz => exact locs rfl
        case c1zz => decide
        case c2zz => exact rfl
        case c3zz => exact rfl
        case c4zz => exact rfl
        intro g' L' h₂ FG F2 N2 B2 X2 T2 hlt
        have I2 : W.InstAt h₂ e (ex0 tp0) 34 none := ⟨(N2 _ (.head _)).1, rfl, rfl, trivial⟩
        dsimp only
        k_steps
        rename_i so h₃ F₃ N₃ l₃
        have r1 : ∀ p ∈ (tp0, tupO [.int num t1, .str told t2]) :: news, p.1 ≠ e := fun p hp => by
          rcases List.mem_cons.mp hp with rfl | hp
          · rintro rfl
            rw [he1] at ht1
            cases ht1
          · exact nN hm.new p hp
        refine e_methodK (oe := ex0 tp0) KC F₃ X2 N₃ hthird rfl rfl hsup fun q h₄ F₄ N₄ => ?_
        refine e_callWithK (e := e) ?_
        clear F₃ N₃ l₃
        k_steps
        · exact (N₄ _ (.head _)).1
        refine e_callK (oe := ex0 tp0) KC F₄ X2 N₄ r1 rfl rfl rfl fun tp h₅ oe5 F₅ hoe N₅ nte nnews => ?_
        clear F₄ N₄ I2
        have N5 := news_drop3 N₅
        have r2 := ne_tail r1
        have r3 := ne_tail nnews
        clear N₅ nnews
        subst hoe
        dsimp only
        k_steps
        refine e_setK0 KC F₅ X2 N5 (ne_cons nte r2) rfl rfl rfl fun dx od h₆ tk6 hod F₆ N₆ hdx r4 => ?_
        clear F₅ N5
        dsimp only
        k_steps
        refine e_setK1 (ns := ["number"]) KC F₆ X2 N₆ (ne_and (ne_cons nte r2) r4) rfl rfl rfl hdx hod (Within.cons _ _ Within.nil) (by decide) fun od' h₇ tk7 hod' F₇ N₇ => ?_
        clear F₆ N₆
        dsimp only
        k_steps
        exact hret e dx tp _ _ od' h₇ tk7 rfl rfl rfl (fun hh q => ⟨_, hod' hh q, by show (if _ then _ else _) = _; rw [if_neg (by decide)]; rfl⟩) hdx.symm nte.symm (fun z => r4 _ (.head _) z.symm) (by assumption) (by assumption) fun p hp => ⟨r2 p hp, r4 p (.tail _ hp), r3 p hp⟩) : False) :)]
  have wot_pos : Mine.Hide (∀ (w : World)
   (mean : ExcName → Option Value)
   (mg mb : Str → Option Value)
   (news : List (Addr × Obj))
   (W : Int)
   (hW : 5 ≤ W ∧ W ≤ 12)
   (dp un : Nat)
   (gd : Option (List Code))
   (cn : Str)
   (cs : Scope)
   (a : Addr)
   (ccd : Value)
   (cl : List (Str × Addr))
   (outer : List Env)
   (A₀ : Around)
   (base h₀ : Heap)
   (L : Addr)
   (m : Str → Option Value)
   (s : Shared)
   (Q E : Value → Shared → Prop)
   (B : Below A₀ base outer h₀)
   (F : Fr h₀ L s.heap m)
   (X : (Mine.x.heap_1_39 w.params).In h₀)
   (N : News h₀ L s.heap news)
   (T : Top Mine.x.view_1_40 (looseW Mine.x.view_1_40 [Str.ofString "SnobolError"]) mean mg mb h₀)
   (hk : cs.kind = .function)
   (hdp : dp + 20 < recursionLimit)
   (hun : un + 160 < cLine)
   (X0 : PySem.Str)
   (c : Nat)
   (r : List Nat)
   (hX : X0.cps.toList = c :: r)
   (hdg : ∀ d ∈ X0.cps.toList, 48 ≤ d ∧ d ≤ 57)
   (hlen : (X0.length : Int) ≤ W)
   (hl5 : X0.length ≤ 5)
   (hlo : 0 ≤ dv (KStt.codes X0))
   (hhi : dv (KStt.codes X0) < (2 : Int) ^ (W - 1).toNat)
   (ti tj : Tok)
   (hret : ∀ (t : Tok) (h' : Heap) (tk' : Nat), Fr h₀ L h' m → News h₀ L h' news → Q (.int (dv (KStt.codes X0)) t) { s with heap := h', toks := tk' }),
   wpAny (model PySem.Challenge.rw_tk0106_01.row.prog w) (ktrTop dp un gd cn cs L a ccd cl outer) (call (.ref 100) [.str X0 ti, .int W tj]) Q E s) := by
    as_aux_lemma =>
      apply Classical.byContradiction
      intro hN0
      apply_assumption (exfalso := false) (symm := false) only [(((by
        apply hN0
        clear hN0
        w_top off
        have mk2 : Mine.Tg 2 := ⟨trivial⟩
        refine ⟨?_⟩
        intro w mean mg mb news W hW dp un gd cn cs a ccd cl outer A₀ base h₀ L m s Q E B F X N T hk hdp hun X0 c r hX hdg hlen hl5 hlo hhi ti tj hret
        revert X; k_fill; intro X
        have hc : 48 ≤ c ∧ c ≤ 57 := hdg c (by rw [hX]; exact List.mem_cons_self ..)
        have f1 := tx_ne hX
        have f2 : (Builtin.Str.occurrences (Str.ofString "+-") (Txt.item X0 0) 0 (Str.ofString "+-").length 1).isEmpty = true := by rw [tx_item hX]; exact occ_digit c hc
        have f3 : (Txt.item X0 0 == Str.ofString "-") = false := by rw [tx_item hX]; exact one_minus hc
        have f4 : X0.length = r.length + 1 := by show X0.cps.size = _; rw [← Array.length_toList, hX]; rfl
        k_with_none
        (k_with "state" => first | rfl | (rw [dv_snoc]; omega))
        (k_with "pyIter str" => ((k_state (fun pre k => k = dv pre) "number"); (all_goals (try (have hkn := code_digit (by assumption) hdg; have hk1 := lo_sign hkn; have hk2 := hi_sign hkn)))))
        refine wpAny_call ?_
        k_dflt cell_enter
        k_steps
        all_goals (refine cb_retI hret ?_ (by assumption) (by assumption); assumption)) : False) :)]
  have wot_neg : Mine.Hide (∀ (w : World)
   (mean : ExcName → Option Value)
   (mg mb : Str → Option Value)
   (news : List (Addr × Obj))
   (W : Int)
   (hW : 5 ≤ W ∧ W ≤ 12)
   (dp un : Nat)
   (gd : Option (List Code))
   (cn : Str)
   (cs : Scope)
   (a : Addr)
   (ccd : Value)
   (cl : List (Str × Addr))
   (outer : List Env)
   (A₀ : Around)
   (base h₀ : Heap)
   (L : Addr)
   (m : Str → Option Value)
   (s : Shared)
   (Q E : Value → Shared → Prop)
   (B : Below A₀ base outer h₀)
   (F : Fr h₀ L s.heap m)
   (X : (Mine.x.heap_1_39 w.params).In h₀)
   (N : News h₀ L s.heap news)
   (T : Top Mine.x.view_1_40 (looseW Mine.x.view_1_40 [Str.ofString "SnobolError"]) mean mg mb h₀)
   (hk : cs.kind = .function)
   (hdp : dp + 20 < recursionLimit)
   (hun : un + 160 < cLine)
   (X0 Y : PySem.Str)
   (r : List Nat)
   (hX : X0.cps.toList = 45 :: r)
   (hY : Txt.slice X0 (some 1) none = Y)
   (hYr : Y.cps.toList = r)
   (hr : r ≠ [])
   (hdg : ∀ d ∈ Y.cps.toList, 48 ≤ d ∧ d ≤ 57)
   (hlen : (Y.length : Int) ≤ W)
   (hl5 : Y.length ≤ 5)
   (hlo : 0 ≤ dv (KStt.codes Y))
   (hhi : -(2 : Int) ^ (W - 1).toNat ≤ -dv (KStt.codes Y))
   (ti tj : Tok)
   (hret : ∀ (t : Tok) (h' : Heap) (tk' : Nat), Fr h₀ L h' m → News h₀ L h' news → Q (.int (-dv (KStt.codes Y)) t) { s with heap := h', toks := tk' }),
   wpAny (model PySem.Challenge.rw_tk0106_01.row.prog w) (ktrTop dp un gd cn cs L a ccd cl outer) (call (.ref 100) [.str X0 ti, .int W tj]) Q E s) := by
    as_aux_lemma =>
      apply Classical.byContradiction
      intro hN0
      apply_assumption (exfalso := false) (symm := false) only [(((by
        apply hN0
        clear hN0
        w_top off
        have mk2 : Mine.Tg 2 := ⟨trivial⟩
        refine ⟨?_⟩
        intro w mean mg mb news W hW dp un gd cn cs a ccd cl outer A₀ base h₀ L m s Q E B F X N T hk hdp hun X0 Y r hX hY hYr hr hdg hlen hl5 hlo hhi ti tj hret
        revert X; k_fill; intro X
        subst hY
        have hp : (0 : Int) < (2 : Int) ^ (W - 1).toNat := Int.pow_pos (by decide)
        have f1 := tx_ne hX
        have f2 : (Builtin.Str.occurrences (Str.ofString "+-") (Txt.item X0 0) 0 (Str.ofString "+-").length 1).isEmpty = false := by rw [tx_item hX]; exact occ_minus
        have f2' : (!(Builtin.Str.occurrences (Str.ofString "+-") (Txt.item X0 0) 0 (Str.ofString "+-").length 1).isEmpty) = true := by rw [f2]; rfl
        have f3 : (Txt.item X0 0 == Str.ofString "-") = true := by rw [tx_item hX]; decide
        have f5 : (Txt.slice X0 (some 1) none == Str.ofString "") = false := by
          cases r with
          | nil => exact absurd rfl hr
          | cons c r => exact tx_ne hYr
        have f4 : X0.length = r.length + 1 := by show X0.cps.size = _; rw [← Array.length_toList, hX]; rfl
        have f6 : (Txt.slice X0 (some 1) none).length = r.length := by show (Txt.slice X0 (some 1) none).cps.size = _; rw [← Array.length_toList, hYr]
        k_with_none
        (k_with "state" => first | rfl | (rw [dv_snoc]; omega))
        (k_with "pyIter str" => ((k_state (fun pre k => k = dv pre) "number"); (all_goals (try (have hkn := code_digit (by assumption) hdg; have hk1 := lo_sign hkn; have hk2 := hi_sign hkn)))))
        refine wpAny_call ?_
        k_dflt cell_enter
        k_steps
        all_goals (refine cb_retI hret ?_ (by assumption) (by assumption); omega)) : False) :)]
  have wot : Mine.Hide (∀ (w : World)
   (mean : ExcName → Option Value)
   (mg mb : Str → Option Value)
   (news : List (Addr × Obj))
   (W : Int)
   (hW : 5 ≤ W ∧ W ≤ 12)
   (dp un : Nat)
   (gd : Option (List Code))
   (cn : Str)
   (cs : Scope)
   (a : Addr)
   (ccd : Value)
   (cl : List (Str × Addr))
   (outer : List Env)
   (A₀ : Around)
   (base h₀ : Heap)
   (L : Addr)
   (m : Str → Option Value)
   (s : Shared)
   (Q E : Value → Shared → Prop)
   (B : Below A₀ base outer h₀)
   (F : Fr h₀ L s.heap m)
   (X : (Mine.x.heap_1_39 w.params).In h₀)
   (N : News h₀ L s.heap news)
   (T : Top Mine.x.view_1_40 (looseW Mine.x.view_1_40 [Str.ofString "SnobolError"]) mean mg mb h₀)
   (hk : cs.kind = .function)
   (hdp : dp + 20 < recursionLimit)
   (hun : un + 160 < cLine)
   (i : Int)
   (hi : -(2 : Int) ^ (W - 1).toNat ≤ i ∧ i < (2 : Int) ^ (W - 1).toNat)
   (ti tj : Tok)
   (hret : ∀ (t : Tok) (h' : Heap) (tk' : Nat), Fr h₀ L h' m → News h₀ L h' news → Q (.int i t) { s with heap := h', toks := tk' }),
   wpAny (model PySem.Challenge.rw_tk0106_01.row.prog w) (ktrTop dp un gd cn cs L a ccd cl outer) (call (.ref 100) [.str (Str.ofString (toString i)) ti, .int W tj]) Q E s) := by
    as_aux_lemma =>
      apply Classical.byContradiction
      intro hN0
      apply_assumption (exfalso := false) (symm := false) only [(((by
        apply hN0
        clear hN0
        w_top off
        have mk0 : Mine.Tg 0 := ⟨trivial⟩
        refine ⟨?_⟩
        intro w mean mg mb news W hW dp un gd cn cs a ccd cl outer A₀ base h₀ L m s Q E B F X N T hk hdp hun i hi ti tj hret
        have hp := pow_small W hW
        cases i with
        | ofNat k =>
          simp only [Int.ofNat_eq_natCast] at hi hret ⊢
          have hm : k < 10000 := by have := hi.2; omega
          have ht := text_pos k
          have hv := num_value _ k ht
          have hl := num_len k hm
          have hne := num_ne k
          have hlX : (Str.ofString (toString (k : Int))).length ≤ 4 := by
            show (Str.ofString (toString (k : Int))).cps.size ≤ 4
            rw [← Array.length_toList, ht]
            exact hl
          obtain ⟨c, r, hcr⟩ := List.exists_cons_of_ne_nil hne
          refine (wot_pos.out) w mean mg mb news W hW dp un gd cn cs a ccd cl outer A₀ base h₀ L m s Q E B F X N T hk hdp hun _ c r (ht.trans hcr) (by intro d hd; exact num_digits k d (ht ▸ hd)) (by omega) (by omega) (by rw [hv]; exact Int.natCast_nonneg k) (by rw [hv]; exact hi.2) ti tj (by rw [hv]; exact hret)
        | negSucc k =>
          have hm : k + 1 < 10000 := by have := hi.1; omega
          have ht := text_neg k
          have hl := num_len (k + 1) hm
          have hne := num_ne (k + 1)
          have hY := tx_slice ht (by omega)
          have hv := num_value ⟨((Nat.toDigits 10 (k + 1)).map Char.toNat).toArray⟩ (k + 1) rfl
          have e : -dv (KStt.codes ⟨((Nat.toDigits 10 (k + 1)).map Char.toNat).toArray⟩) = Int.negSucc k := by rw [hv]; rfl
          refine (wot_neg.out) w mean mg mb news W hW dp un gd cn cs a ccd cl outer A₀ base h₀ L m s Q E B F X N T hk hdp hun _ _ _ ht hY rfl hne (num_digits (k + 1)) (by show ((((Nat.toDigits 10 (k + 1)).map Char.toNat).toArray.size : Nat) : Int) ≤ W; rw [List.size_toArray]; omega) (by show ((Nat.toDigits 10 (k + 1)).map Char.toNat).toArray.size ≤ 5; rw [List.size_toArray]; omega) (by rw [hv]; exact Int.natCast_nonneg _) (by rw [e]; exact hi.1) ti tj (by rw [e]; exact hret)) : False) :)]
  have mk_world : Mine.Hide (∀ (w : World)
   (mean : ExcName → Option Value)
   (mg mb : Str → Option Value)
   (news : List (Addr × Obj))
   (W : Int)
   (ti : Tok)
   (dp un : Nat)
   (gd : Option (List Code))
   (cn : Str)
   (cs : Scope)
   (a : Addr)
   (ccd : Value)
   (cl : List (Str × Addr))
   (A₀ : Around)
   (h₀ : Heap)
   (L : Addr)
   (m : Str → Option Value)
   (s : Shared)
   (Q E : Value → Shared → Prop)
   (B : Below A₀ h₀ [] h₀)
   (F : Fr h₀ L s.heap m)
   (X : (Mine.x.heap_1_39 w.params).In h₀)
   (N : News h₀ L s.heap news)
   (T : Top Mine.x.view_1_40 (looseW Mine.x.view_1_40 [Str.ofString "SnobolError"]) mean mg mb h₀)
   (hk : cs.kind = .function)
   (hdp : dp + 60 < recursionLimit)
   (hun : un + 500 < cLine)
   (hret : ∀ (t : Tok) (x dx : Addr) (es : List DictEntry) (n : Nat) (h' : Heap) (tk' : Nat), Fr h₀ L h' m → News h₀ L h' ((x, instObj 237 dx) :: (dx, dictOf es n) :: news) → (∀ p ∈ news, p.1 < dx) → dx < x → getL (Str.ofString "width") es = some (some (.int W t)) → Q (.ref x) { s with heap := h', toks := tk' }),
   wpAny (model PySem.Challenge.rw_tk0106_01.row.prog w) (ktrTop dp un gd cn cs L a ccd cl []) (call (.ref 237) [.int W ti]) Q E s) := by
    as_aux_lemma =>
      apply Classical.byContradiction
      intro hN0
      apply_assumption (exfalso := false) (symm := false) only [(((by
        apply hN0
        clear hN0
        w_top off
        have mk4 : Mine.Tg 4 := ⟨trivial⟩
        refine ⟨?_⟩
        intro w mean mg mb news W ti dp un gd cn cs a ccd cl A₀ h₀ L m s Q E B F X N T hk hdp hun hret
        revert X; k_fill; intro X
        k_with_none
        k_dflt (refine' call_cls ?k1zz ?k2zz ?k3zz ?k4zz ?k5zz ?k6zz ?_; (case k1zz => k_asm); (case k2zz => k_asm); (case k3zz => k_asm); (case k4zz => k_is); (case k5zz => k_is); (case k6zz => k_is); k_whole; intro x' d' h' F' N' l1 l2; have q1 := l1; have q2 := l2; (try k_lt l1); (try k_lt2 l2); (try k_sweep); k_enter)
        k_steps
        all_goals (refine' mk_fin hret ?Fzz ?Nzz ?h1zz ?h2zz ?h3zz ?q1zz ?q2zz ?ezz; (case Fzz => assumption); (case Nzz => assumption); (case h1zz => (repeat (first | exact List.mem_cons_self | refine List.mem_cons_of_mem _ ?_))); (case h2zz => (repeat (first | exact List.mem_cons_self | refine List.mem_cons_of_mem _ ?_))); (case h3zz => intro p hp; (repeat (first | exact hp | refine List.mem_cons_of_mem _ ?_))); (case q1zz => exact q1); (case q2zz => exact q2); (case ezz => exact rfl))) : False) :)]
  have made_rest : Mine.Hide (∀ (w : World)
   (mean : ExcName → Option Value)
   (mg mb : Str → Option Value)
   (news : List (Addr × Obj))
   (x dx : Addr)
   (es : List DictEntry)
   (n : Nat)
   (W : Int)
   (tw : Tok)
   (hx : (x, instObj 237 dx) ∈ news)
   (hdx : (dx, dictOf es n) ∈ news)
   (hw : getL (Str.ofString "width") es = some (some (.int W tw)))
   (hW : 5 ≤ W ∧ W ≤ 12)
   (dp un : Nat)
   (gd : Option (List Code))
   (cn : Str)
   (cs : Scope)
   (a : Addr)
   (ccd : Value)
   (cl : List (Str × Addr))
   (A₀ : Around)
   (h₀ : Heap)
   (L : Addr)
   (m : Str → Option Value)
   (s : Shared)
   (Q E : Value → Shared → Prop)
   (B : Below A₀ h₀ [] h₀)
   (F : Fr h₀ L s.heap m)
   (X : (Mine.x.heap_1_39 w.params).In h₀)
   (N : News h₀ L s.heap news)
   (T : Top Mine.x.view_1_40 (looseW Mine.x.view_1_40 [Str.ofString "SnobolError"]) mean mg mb h₀)
   (hk : cs.kind = .function)
   (hdp : dp + 60 < recursionLimit)
   (hun : un + 500 < cLine)
   (i j : Int)
   (ti tj : Tok)
   (hi : -10000000 ≤ i ∧ i ≤ 10000000)
   (hj : -(2 : Int) ^ (W - 1).toNat ≤ j ∧ j < (2 : Int) ^ (W - 1).toNat)
   (hj0 : j ≠ 0)
   (hret : ∀ (t : Tok) (h' : Heap) (tk' : Nat), Fr h₀ L h' m → News h₀ L h' news → Q (val (fit W (i.tmod j)) t) { s with heap := h', toks := tk' }),
   wpAny (model PySem.Challenge.rw_tk0106_01.row.prog w) (ktrTop dp un gd cn cs L a ccd cl []) (call (.ref 262) [.ref x, .int i ti, .int j tj]) Q E s) := by
    as_aux_lemma =>
      apply Classical.byContradiction
      intro hN0
      apply_assumption (exfalso := false) (symm := false) only [(((by
        apply hN0
        clear hN0
        w_top off
        have mk1 : Mine.Tg 1 := ⟨trivial⟩
        refine ⟨?_⟩
        intro w mean mg mb news x dx es n W tw hx hdx hw hW dp un gd cn cs a ccd cl A₀ h₀ L m s Q E B F X N T hk hdp hun i j ti tj hi hj hj0 hret
        revert X; k_fill; intro X
        have hp := pow_small W hW
        have hlog := log_small j (by omega)
        k_with_none
        refine wpAny_call ?_
        refine' code_defT ?k1zz ?k2zz ?k3zz ?k4zz ?k5zz ?kAzz ?kfzz ?kKzz ?k6zz ?k7zz ?k8zz ?k9zz ?kBzz ?_ ?c2zz ?c3zz ?c4zz ?c5zz
        case kAzz => exact rfl
        case kfzz => exact rfl
        case k2zz => exact F
        case k1zz => exact B
        case k3zz => exact X
        case k4zz => exact N
        case k5zz => exact T
        case k6zz => k_dflt k_is
        case k7zz => k_dflt k_is
        case k8zz => ktr_room
        case k9zz => exact BindsTo.of_eq rfl
        case kBzz => exact locs rfl
        case kKzz => exact hk
        case c2zz => exact rfl
        case c3zz => exact rfl
        case c4zz => exact rfl
        case c5zz => decide
        intro g' L' h' FG' F' N' B' X' T' D'
        dsimp only
        k_lift B'
        k_fold
        k_steps
        all_goals (refine' fin_ret (R := fun t => val (fit W (i.tmod j)) t) hret ?ezz ?Fzz ?Nzz ?Szz; (case Fzz => assumption); (case Nzz => assumption); (case Szz => intro p hp; (repeat (first | exact hp | refine List.mem_cons_of_mem _ ?_))); (case ezz => first
         | exact absurd (by assumption) hj0
         | exact ⟨_, val_some (x := i.tmod j) (by rw [← r_same (by assumption)]; omega) (r_same (by assumption)).symm _⟩
         | exact ⟨_, val_some (x := i.tmod j) (by rw [← r_diff (by assumption)]; omega) (r_diff (by assumption)).symm _⟩
         | exact ⟨0, val_none (x := i.tmod j) (by rw [← r_same (by assumption)]; omega) _⟩
         | exact ⟨0, val_none (x := i.tmod j) (by rw [← r_diff (by assumption)]; omega) _⟩))) : False) :)]
  have made_rest0 : Mine.Hide (∀ (w : World)
   (mean : ExcName → Option Value)
   (mg mb : Str → Option Value)
   (news : List (Addr × Obj))
   (x dx : Addr)
   (es : List DictEntry)
   (n : Nat)
   (W : Int)
   (tw : Tok)
   (hx : (x, instObj 237 dx) ∈ news)
   (hdx : (dx, dictOf es n) ∈ news)
   (hw : getL (Str.ofString "width") es = some (some (.int W tw)))
   (hW : 5 ≤ W ∧ W ≤ 12)
   (dp un : Nat)
   (gd : Option (List Code))
   (cn : Str)
   (cs : Scope)
   (a : Addr)
   (ccd : Value)
   (cl : List (Str × Addr))
   (A₀ : Around)
   (h₀ : Heap)
   (L : Addr)
   (m : Str → Option Value)
   (s : Shared)
   (Q E : Value → Shared → Prop)
   (B : Below A₀ h₀ [] h₀)
   (F : Fr h₀ L s.heap m)
   (X : (Mine.x.heap_1_39 w.params).In h₀)
   (N : News h₀ L s.heap news)
   (T : Top Mine.x.view_1_40 (looseW Mine.x.view_1_40 [Str.ofString "SnobolError"]) mean mg mb h₀)
   (hk : cs.kind = .function)
   (hdp : dp + 60 < recursionLimit)
   (hun : un + 500 < cLine)
   (i : Int)
   (ti tj : Tok)
   (hi : -10000000 ≤ i ∧ i ≤ 10000000)
   (hret : ∀ (t : Tok) (h' : Heap) (tk' : Nat), Fr h₀ L h' m → News h₀ L h' news → Q (val (none) t) { s with heap := h', toks := tk' }),
   wpAny (model PySem.Challenge.rw_tk0106_01.row.prog w) (ktrTop dp un gd cn cs L a ccd cl []) (call (.ref 262) [.ref x, .int i ti, .int 0 tj]) Q E s) := by
    as_aux_lemma =>
      apply Classical.byContradiction
      intro hN0
      apply_assumption (exfalso := false) (symm := false) only [(((by
        apply hN0
        clear hN0
        w_top off
        have mk1 : Mine.Tg 1 := ⟨trivial⟩
        refine ⟨?_⟩
        intro w mean mg mb news x dx es n W tw hx hdx hw hW dp un gd cn cs a ccd cl A₀ h₀ L m s Q E B F X N T hk hdp hun i ti tj hi hret
        revert X; k_fill; intro X
        have hp := pow_small W hW
        have hlog : (0 : Int).natAbs.log2 < 1920 := by decide
        have hz : -(2 : Int) ^ (W - 1).toNat ≤ 0 ∧ 0 < (2 : Int) ^ (W - 1).toNat := by omega
        k_with_none
        refine wpAny_call ?_
        refine' code_defT ?k1zz ?k2zz ?k3zz ?k4zz ?k5zz ?kAzz ?kfzz ?kKzz ?k6zz ?k7zz ?k8zz ?k9zz ?kBzz ?_ ?c2zz ?c3zz ?c4zz ?c5zz
        case kAzz => exact rfl
        case kfzz => exact rfl
        case k2zz => exact F
        case k1zz => exact B
        case k3zz => exact X
        case k4zz => exact N
        case k5zz => exact T
        case k6zz => k_dflt k_is
        case k7zz => k_dflt k_is
        case k8zz => ktr_room
        case k9zz => exact BindsTo.of_eq rfl
        case kBzz => exact locs rfl
        case kKzz => exact hk
        case c2zz => exact rfl
        case c3zz => exact rfl
        case c4zz => exact rfl
        case c5zz => decide
        intro g' L' h' FG' F' N' B' X' T' D'
        dsimp only
        k_lift B'
        k_fold
        k_steps
        all_goals (refine' fin_ret (R := fun t => val (none) t) hret ?ezz ?Fzz ?Nzz ?Szz; (case Fzz => assumption); (case Nzz => assumption); (case Szz => intro p hp; (repeat (first | exact hp | refine List.mem_cons_of_mem _ ?_))); (case ezz => exact ⟨0, rfl⟩))) : False) :)]
  have made_div : Mine.Hide (∀ (w : World)
   (mean : ExcName → Option Value)
   (mg mb : Str → Option Value)
   (news : List (Addr × Obj))
   (x dx : Addr)
   (es : List DictEntry)
   (n : Nat)
   (W : Int)
   (tw : Tok)
   (hx : (x, instObj 237 dx) ∈ news)
   (hdx : (dx, dictOf es n) ∈ news)
   (hw : getL (Str.ofString "width") es = some (some (.int W tw)))
   (hW : 5 ≤ W ∧ W ≤ 12)
   (dp un : Nat)
   (gd : Option (List Code))
   (cn : Str)
   (cs : Scope)
   (a : Addr)
   (ccd : Value)
   (cl : List (Str × Addr))
   (A₀ : Around)
   (h₀ : Heap)
   (L : Addr)
   (m : Str → Option Value)
   (s : Shared)
   (Q E : Value → Shared → Prop)
   (B : Below A₀ h₀ [] h₀)
   (F : Fr h₀ L s.heap m)
   (X : (Mine.x.heap_1_39 w.params).In h₀)
   (N : News h₀ L s.heap news)
   (T : Top Mine.x.view_1_40 (looseW Mine.x.view_1_40 [Str.ofString "SnobolError"]) mean mg mb h₀)
   (hk : cs.kind = .function)
   (hdp : dp + 60 < recursionLimit)
   (hun : un + 500 < cLine)
   (i j : Int)
   (ti tj to : Tok)
   (hi : -(2 : Int) ^ (W - 1).toNat ≤ i ∧ i < (2 : Int) ^ (W - 1).toNat)
   (hj : -10000000 ≤ j ∧ j ≤ 10000000)
   (hj0 : j ≠ 0)
   (hret : ∀ (t : Tok) (h' : Heap) (tk' : Nat), Fr h₀ L h' m → News h₀ L h' news → Q (val (fit W (i.tdiv j)) t) { s with heap := h', toks := tk' }),
   wpAny (model PySem.Challenge.rw_tk0106_01.row.prog w) (ktrTop dp un gd cn cs L a ccd cl []) (call (.ref 248) [.ref x, .str (Str.ofString "/") to, .int i ti, .int j tj]) Q E s) := by
    as_aux_lemma =>
      apply Classical.byContradiction
      intro hN0
      apply_assumption (exfalso := false) (symm := false) only [(((by
        apply hN0
        clear hN0
        w_top off
        have mk1 : Mine.Tg 1 := ⟨trivial⟩
        refine ⟨?_⟩
        intro w mean mg mb news x dx es n W tw hx hdx hw hW dp un gd cn cs a ccd cl A₀ h₀ L m s Q E B F X N T hk hdp hun i j ti tj to hi hj hj0 hret
        revert X; k_fill; intro X
        have hp := pow_small W hW
        have hlog := log_small i (by omega)
        k_with_none
        refine wpAny_call ?_
        refine' code_defT ?k1zz ?k2zz ?k3zz ?k4zz ?k5zz ?kAzz ?kfzz ?kKzz ?k6zz ?k7zz ?k8zz ?k9zz ?kBzz ?_ ?c2zz ?c3zz ?c4zz ?c5zz
        case kAzz => exact rfl
        case kfzz => exact rfl
        case k2zz => exact F
        case k1zz => exact B
        case k3zz => exact X
        case k4zz => exact N
        case k5zz => exact T
        case k6zz => k_dflt k_is
        case k7zz => k_dflt k_is
        case k8zz => ktr_room
        case k9zz => exact BindsTo.of_eq rfl
        case kBzz => exact locs rfl
        case kKzz => exact hk
        case c2zz => exact rfl
        case c3zz => exact rfl
        case c4zz => exact rfl
        case c5zz => decide
        intro g' L' h' FG' F' N' B' X' T' D'
        dsimp only
        k_lift B'
        k_fold
        k_steps
        all_goals (refine' fin_ret (R := fun t => val (fit W (i.tdiv j)) t) hret ?ezz ?Fzz ?Nzz ?Szz; (case Fzz => assumption); (case Nzz => assumption); (case Szz => intro p hp; (repeat (first | exact hp | refine List.mem_cons_of_mem _ ?_))); (case ezz => first
         | exact absurd (by assumption) hj0
         | exact ⟨_, val_some (x := i.tdiv j) (by rw [← q_same (by assumption)]; omega) (q_same (by assumption)).symm _⟩
         | exact ⟨_, val_some (x := i.tdiv j) (by rw [← q_diff (by assumption)]; omega) (q_diff (by assumption)).symm _⟩
         | exact ⟨_, val_some (x := i.tdiv j) (by rw [← q_diff0 (by assumption)]; omega) (q_diff0 (by assumption)).symm _⟩
         | exact ⟨0, val_none (x := i.tdiv j) (by rw [← q_same (by assumption)]; omega) _⟩
         | exact ⟨0, val_none (x := i.tdiv j) (by rw [← q_diff (by assumption)]; omega) _⟩
         | exact ⟨0, val_none (x := i.tdiv j) (by rw [← q_diff0 (by assumption)]; omega) _⟩))) : False) :)]
  have made_div0 : Mine.Hide (∀ (w : World)
   (mean : ExcName → Option Value)
   (mg mb : Str → Option Value)
   (news : List (Addr × Obj))
   (x dx : Addr)
   (es : List DictEntry)
   (n : Nat)
   (W : Int)
   (tw : Tok)
   (hx : (x, instObj 237 dx) ∈ news)
   (hdx : (dx, dictOf es n) ∈ news)
   (hw : getL (Str.ofString "width") es = some (some (.int W tw)))
   (hW : 5 ≤ W ∧ W ≤ 12)
   (dp un : Nat)
   (gd : Option (List Code))
   (cn : Str)
   (cs : Scope)
   (a : Addr)
   (ccd : Value)
   (cl : List (Str × Addr))
   (A₀ : Around)
   (h₀ : Heap)
   (L : Addr)
   (m : Str → Option Value)
   (s : Shared)
   (Q E : Value → Shared → Prop)
   (B : Below A₀ h₀ [] h₀)
   (F : Fr h₀ L s.heap m)
   (X : (Mine.x.heap_1_39 w.params).In h₀)
   (N : News h₀ L s.heap news)
   (T : Top Mine.x.view_1_40 (looseW Mine.x.view_1_40 [Str.ofString "SnobolError"]) mean mg mb h₀)
   (hk : cs.kind = .function)
   (hdp : dp + 60 < recursionLimit)
   (hun : un + 500 < cLine)
   (i : Int)
   (ti tj to : Tok)
   (hi : -(2 : Int) ^ (W - 1).toNat ≤ i ∧ i < (2 : Int) ^ (W - 1).toNat)
   (hret : ∀ (t : Tok) (h' : Heap) (tk' : Nat), Fr h₀ L h' m → News h₀ L h' news → Q (val (none) t) { s with heap := h', toks := tk' }),
   wpAny (model PySem.Challenge.rw_tk0106_01.row.prog w) (ktrTop dp un gd cn cs L a ccd cl []) (call (.ref 248) [.ref x, .str (Str.ofString "/") to, .int i ti, .int 0 tj]) Q E s) := by
    as_aux_lemma =>
      apply Classical.byContradiction
      intro hN0
      apply_assumption (exfalso := false) (symm := false) only [(((by
        apply hN0
        clear hN0
        w_top off
        have mk1 : Mine.Tg 1 := ⟨trivial⟩
        refine ⟨?_⟩
        intro w mean mg mb news x dx es n W tw hx hdx hw hW dp un gd cn cs a ccd cl A₀ h₀ L m s Q E B F X N T hk hdp hun i ti tj to hi hret
        revert X; k_fill; intro X
        have hp := pow_small W hW
        have hlog := log_small i (by omega)
        k_with_none
        refine wpAny_call ?_
        refine' code_defT ?k1zz ?k2zz ?k3zz ?k4zz ?k5zz ?kAzz ?kfzz ?kKzz ?k6zz ?k7zz ?k8zz ?k9zz ?kBzz ?_ ?c2zz ?c3zz ?c4zz ?c5zz
        case kAzz => exact rfl
        case kfzz => exact rfl
        case k2zz => exact F
        case k1zz => exact B
        case k3zz => exact X
        case k4zz => exact N
        case k5zz => exact T
        case k6zz => k_dflt k_is
        case k7zz => k_dflt k_is
        case k8zz => ktr_room
        case k9zz => exact BindsTo.of_eq rfl
        case kBzz => exact locs rfl
        case kKzz => exact hk
        case c2zz => exact rfl
        case c3zz => exact rfl
        case c4zz => exact rfl
        case c5zz => decide
        intro g' L' h' FG' F' N' B' X' T' D'
        dsimp only
        k_lift B'
        k_fold
        k_steps
        all_goals (refine' fin_ret (R := fun t => val (none) t) hret ?ezz ?Fzz ?Nzz ?Szz; (case Fzz => assumption); (case Nzz => assumption); (case Szz => intro p hp; (repeat (first | exact hp | refine List.mem_cons_of_mem _ ?_))); (case ezz => exact ⟨0, rfl⟩))) : False) :)]
  have made_mul : Mine.Hide (∀ (w : World)
   (mean : ExcName → Option Value)
   (mg mb : Str → Option Value)
   (news : List (Addr × Obj))
   (x dx : Addr)
   (es : List DictEntry)
   (n : Nat)
   (W : Int)
   (tw : Tok)
   (hx : (x, instObj 237 dx) ∈ news)
   (hdx : (dx, dictOf es n) ∈ news)
   (hw : getL (Str.ofString "width") es = some (some (.int W tw)))
   (hW : 5 ≤ W ∧ W ≤ 12)
   (dp un : Nat)
   (gd : Option (List Code))
   (cn : Str)
   (cs : Scope)
   (a : Addr)
   (ccd : Value)
   (cl : List (Str × Addr))
   (A₀ : Around)
   (h₀ : Heap)
   (L : Addr)
   (m : Str → Option Value)
   (s : Shared)
   (Q E : Value → Shared → Prop)
   (B : Below A₀ h₀ [] h₀)
   (F : Fr h₀ L s.heap m)
   (X : (Mine.x.heap_1_39 w.params).In h₀)
   (N : News h₀ L s.heap news)
   (T : Top Mine.x.view_1_40 (looseW Mine.x.view_1_40 [Str.ofString "SnobolError"]) mean mg mb h₀)
   (hk : cs.kind = .function)
   (hdp : dp + 60 < recursionLimit)
   (hun : un + 500 < cLine)
   (i j : Int)
   (ti tj to : Tok)
   (hi : -(2 : Int) ^ (W - 1).toNat ≤ i ∧ i < (2 : Int) ^ (W - 1).toNat)
   (hj : -10000000 ≤ j ∧ j ≤ 10000000)
   (hret : ∀ (t : Tok) (h' : Heap) (tk' : Nat), Fr h₀ L h' m → News h₀ L h' news → Q (val (fit W (i * j)) t) { s with heap := h', toks := tk' }),
   wpAny (model PySem.Challenge.rw_tk0106_01.row.prog w) (ktrTop dp un gd cn cs L a ccd cl []) (call (.ref 248) [.ref x, .str (Str.ofString "*") to, .int i ti, .int j tj]) Q E s) := by
    as_aux_lemma =>
      apply Classical.byContradiction
      intro hN0
      apply_assumption (exfalso := false) (symm := false) only [(((by
        apply hN0
        clear hN0
        w_top off
        have mk1 : Mine.Tg 1 := ⟨trivial⟩
        refine ⟨?_⟩
        intro w mean mg mb news x dx es n W tw hx hdx hw hW dp un gd cn cs a ccd cl A₀ h₀ L m s Q E B F X N T hk hdp hun i j ti tj to hi hj hret
        revert X; k_fill; intro X
        have hp := pow_small W hW
        have hlog := log_small i (by omega)
        k_with_none
        refine wpAny_call ?_
        refine' code_defT ?k1zz ?k2zz ?k3zz ?k4zz ?k5zz ?kAzz ?kfzz ?kKzz ?k6zz ?k7zz ?k8zz ?k9zz ?kBzz ?_ ?c2zz ?c3zz ?c4zz ?c5zz
        case kAzz => exact rfl
        case kfzz => exact rfl
        case k2zz => exact F
        case k1zz => exact B
        case k3zz => exact X
        case k4zz => exact N
        case k5zz => exact T
        case k6zz => k_dflt k_is
        case k7zz => k_dflt k_is
        case k8zz => ktr_room
        case k9zz => exact BindsTo.of_eq rfl
        case kBzz => exact locs rfl
        case kKzz => exact hk
        case c2zz => exact rfl
        case c3zz => exact rfl
        case c4zz => exact rfl
        case c5zz => decide
        intro g' L' h' FG' F' N' B' X' T' D'
        dsimp only
        k_lift B'
        k_fold
        k_steps
        all_goals (refine' fin_ret (R := fun t => val (fit W (i * j)) t) hret ?ezz ?Fzz ?Nzz ?Szz; (case Fzz => assumption); (case Nzz => assumption); (case Szz => intro p hp; (repeat (first | exact hp | refine List.mem_cons_of_mem _ ?_))); (case ezz => first | exact ⟨_, val_some (by omega) (by omega) _⟩ | exact ⟨0, val_none (by omega) _⟩))) : False) :)]
  have made_add : Mine.Hide (∀ (w : World)
   (mean : ExcName → Option Value)
   (mg mb : Str → Option Value)
   (news : List (Addr × Obj))
   (x dx : Addr)
   (es : List DictEntry)
   (n : Nat)
   (W : Int)
   (tw : Tok)
   (hx : (x, instObj 237 dx) ∈ news)
   (hdx : (dx, dictOf es n) ∈ news)
   (hw : getL (Str.ofString "width") es = some (some (.int W tw)))
   (hW : 5 ≤ W ∧ W ≤ 12)
   (dp un : Nat)
   (gd : Option (List Code))
   (cn : Str)
   (cs : Scope)
   (a : Addr)
   (ccd : Value)
   (cl : List (Str × Addr))
   (A₀ : Around)
   (h₀ : Heap)
   (L : Addr)
   (m : Str → Option Value)
   (s : Shared)
   (Q E : Value → Shared → Prop)
   (B : Below A₀ h₀ [] h₀)
   (F : Fr h₀ L s.heap m)
   (X : (Mine.x.heap_1_39 w.params).In h₀)
   (N : News h₀ L s.heap news)
   (T : Top Mine.x.view_1_40 (looseW Mine.x.view_1_40 [Str.ofString "SnobolError"]) mean mg mb h₀)
   (hk : cs.kind = .function)
   (hdp : dp + 60 < recursionLimit)
   (hun : un + 500 < cLine)
   (i j : Int)
   (ti tj to : Tok)
   (hi : -(2 : Int) ^ (W - 1).toNat ≤ i ∧ i < (2 : Int) ^ (W - 1).toNat)
   (hj : -10000000 ≤ j ∧ j ≤ 10000000)
   (hret : ∀ (t : Tok) (h' : Heap) (tk' : Nat), Fr h₀ L h' m → News h₀ L h' news → Q (val (fit W (i + j)) t) { s with heap := h', toks := tk' }),
   wpAny (model PySem.Challenge.rw_tk0106_01.row.prog w) (ktrTop dp un gd cn cs L a ccd cl []) (call (.ref 248) [.ref x, .str (Str.ofString "+") to, .int i ti, .int j tj]) Q E s) := by
    as_aux_lemma =>
      apply Classical.byContradiction
      intro hN0
      apply_assumption (exfalso := false) (symm := false) only [(((by
        apply hN0
        clear hN0
        w_top off
        have mk1 : Mine.Tg 1 := ⟨trivial⟩
        refine ⟨?_⟩
        intro w mean mg mb news x dx es n W tw hx hdx hw hW dp un gd cn cs a ccd cl A₀ h₀ L m s Q E B F X N T hk hdp hun i j ti tj to hi hj hret
        revert X; k_fill; intro X
        have hp := pow_small W hW
        have hlog := log_small i (by omega)
        k_with_none
        refine wpAny_call ?_
        refine' code_defT ?k1zz ?k2zz ?k3zz ?k4zz ?k5zz ?kAzz ?kfzz ?kKzz ?k6zz ?k7zz ?k8zz ?k9zz ?kBzz ?_ ?c2zz ?c3zz ?c4zz ?c5zz
        case kAzz => exact rfl
        case kfzz => exact rfl
        case k2zz => exact F
        case k1zz => exact B
        case k3zz => exact X
        case k4zz => exact N
        case k5zz => exact T
        case k6zz => k_dflt k_is
        case k7zz => k_dflt k_is
        case k8zz => ktr_room
        case k9zz => exact BindsTo.of_eq rfl
        case kBzz => exact locs rfl
        case kKzz => exact hk
        case c2zz => exact rfl
        case c3zz => exact rfl
        case c4zz => exact rfl
        case c5zz => decide
        intro g' L' h' FG' F' N' B' X' T' D'
        dsimp only
        k_lift B'
        k_fold
        k_steps
        all_goals (refine' fin_ret (R := fun t => val (fit W (i + j)) t) hret ?ezz ?Fzz ?Nzz ?Szz; (case Fzz => assumption); (case Nzz => assumption); (case Szz => intro p hp; (repeat (first | exact hp | refine List.mem_cons_of_mem _ ?_))); (case ezz => first | exact ⟨_, val_some (by omega) (by omega) _⟩ | exact ⟨0, val_none (by omega) _⟩))) : False) :)]
  have due_mul : Mine.Hide (∀ (w : World)
   (mean : ExcName → Option Value)
   (mg mb : Str → Option Value)
   (news : List (Addr × Obj))
   (x dx : Addr)
   (es : List DictEntry)
   (n : Nat)
   (W : Int)
   (tw : Tok)
   (hx : (x, instObj 237 dx) ∈ news)
   (hdx : (dx, dictOf es n) ∈ news)
   (hw : getL (Str.ofString "width") es = some (some (.int W tw)))
   (hW : 5 ≤ W ∧ W ≤ 12)
   (dp un : Nat)
   (gd : Option (List Code))
   (cn : Str)
   (cs : Scope)
   (a : Addr)
   (ccd : Value)
   (cl : List (Str × Addr))
   (A₀ : Around)
   (h₀ : Heap)
   (L : Addr)
   (m : Str → Option Value)
   (s : Shared)
   (Q E : Value → Shared → Prop)
   (B : Below A₀ h₀ [] h₀)
   (F : Fr h₀ L s.heap m)
   (X : (Mine.x.heap_1_39 w.params).In h₀)
   (N : News h₀ L s.heap news)
   (T : Top Mine.x.view_1_40 (looseW Mine.x.view_1_40 [Str.ofString "SnobolError"]) mean mg mb h₀)
   (hk : cs.kind = .function)
   (hdp : dp + 60 < recursionLimit)
   (hun : un + 500 < cLine)
   (i j : Int)
   (ti tj to : Tok)
   (hi : -10000000 ≤ i ∧ i ≤ 10000000)
   (hj : -10000000 ≤ j ∧ j ≤ 10000000)
   (hret : ∀ (t : Tok) (h' : Heap) (tk' : Nat), Fr h₀ L h' m → News h₀ L h' news → Q (val (fit W (i * j)) t) { s with heap := h', toks := tk' }),
   wpAny (model PySem.Challenge.rw_tk0106_01.row.prog w) (ktrTop dp un gd cn cs L a ccd cl []) (call (.ref 255) [.ref x, .str (Str.ofString "*") to, .int i ti, .int j tj]) Q E s) := by
    as_aux_lemma =>
      apply Classical.byContradiction
      intro hN0
      apply_assumption (exfalso := false) (symm := false) only [(((by
        apply hN0
        clear hN0
        w_top off
        have mk1 : Mine.Tg 1 := ⟨trivial⟩
        refine ⟨?_⟩
        intro w mean mg mb news x dx es n W tw hx hdx hw hW dp un gd cn cs a ccd cl A₀ h₀ L m s Q E B F X N T hk hdp hun i j ti tj to hi hj hret
        revert X; k_fill; intro X
        have hp := pow_small W hW
        k_with_none
        refine wpAny_call ?_
        k_dflt cell_enter
        k_steps
        all_goals (refine' fin_ret (R := fun t => val (fit W (i * j)) t) hret ?ezz ?Fzz ?Nzz ?Szz; (case Fzz => assumption); (case Nzz => assumption); (case Szz => intro p hp; (repeat (first | exact hp | refine List.mem_cons_of_mem _ ?_))); (case ezz => first | exact ⟨_, val_some (by omega) (by omega) _⟩ | exact ⟨0, val_none (by omega) _⟩))) : False) :)]
  have due_add : Mine.Hide (∀ (w : World)
   (mean : ExcName → Option Value)
   (mg mb : Str → Option Value)
   (news : List (Addr × Obj))
   (x dx : Addr)
   (es : List DictEntry)
   (n : Nat)
   (W : Int)
   (tw : Tok)
   (hx : (x, instObj 237 dx) ∈ news)
   (hdx : (dx, dictOf es n) ∈ news)
   (hw : getL (Str.ofString "width") es = some (some (.int W tw)))
   (hW : 5 ≤ W ∧ W ≤ 12)
   (dp un : Nat)
   (gd : Option (List Code))
   (cn : Str)
   (cs : Scope)
   (a : Addr)
   (ccd : Value)
   (cl : List (Str × Addr))
   (A₀ : Around)
   (h₀ : Heap)
   (L : Addr)
   (m : Str → Option Value)
   (s : Shared)
   (Q E : Value → Shared → Prop)
   (B : Below A₀ h₀ [] h₀)
   (F : Fr h₀ L s.heap m)
   (X : (Mine.x.heap_1_39 w.params).In h₀)
   (N : News h₀ L s.heap news)
   (T : Top Mine.x.view_1_40 (looseW Mine.x.view_1_40 [Str.ofString "SnobolError"]) mean mg mb h₀)
   (hk : cs.kind = .function)
   (hdp : dp + 60 < recursionLimit)
   (hun : un + 500 < cLine)
   (i j : Int)
   (ti tj to : Tok)
   (hi : -10000000 ≤ i ∧ i ≤ 10000000)
   (hj : -10000000 ≤ j ∧ j ≤ 10000000)
   (hret : ∀ (t : Tok) (h' : Heap) (tk' : Nat), Fr h₀ L h' m → News h₀ L h' news → Q (val (fit W (i + j)) t) { s with heap := h', toks := tk' }),
   wpAny (model PySem.Challenge.rw_tk0106_01.row.prog w) (ktrTop dp un gd cn cs L a ccd cl []) (call (.ref 255) [.ref x, .str (Str.ofString "+") to, .int i ti, .int j tj]) Q E s) := by
    as_aux_lemma =>
      apply Classical.byContradiction
      intro hN0
      apply_assumption (exfalso := false) (symm := false) only [(((by
        apply hN0
        clear hN0
        w_top off
        have mk1 : Mine.Tg 1 := ⟨trivial⟩
        refine ⟨?_⟩
        intro w mean mg mb news x dx es n W tw hx hdx hw hW dp un gd cn cs a ccd cl A₀ h₀ L m s Q E B F X N T hk hdp hun i j ti tj to hi hj hret
        revert X; k_fill; intro X
        have hp := pow_small W hW
        k_with_none
        refine wpAny_call ?_
        k_dflt cell_enter
        k_steps
        all_goals (refine' fin_ret (R := fun t => val (fit W (i + j)) t) hret ?ezz ?Fzz ?Nzz ?Szz; (case Fzz => assumption); (case Nzz => assumption); (case Szz => intro p hp; (repeat (first | exact hp | refine List.mem_cons_of_mem _ ?_))); (case ezz => first | exact ⟨_, val_some (by omega) (by omega) _⟩ | exact ⟨0, val_none (by omega) _⟩))) : False) :)]
  have due_div : Mine.Hide (∀ (w : World)
   (mean : ExcName → Option Value)
   (mg mb : Str → Option Value)
   (news : List (Addr × Obj))
   (x dx : Addr)
   (es : List DictEntry)
   (n : Nat)
   (W : Int)
   (tw : Tok)
   (hx : (x, instObj 237 dx) ∈ news)
   (hdx : (dx, dictOf es n) ∈ news)
   (hw : getL (Str.ofString "width") es = some (some (.int W tw)))
   (hW : 5 ≤ W ∧ W ≤ 12)
   (dp un : Nat)
   (gd : Option (List Code))
   (cn : Str)
   (cs : Scope)
   (a : Addr)
   (ccd : Value)
   (cl : List (Str × Addr))
   (A₀ : Around)
   (h₀ : Heap)
   (L : Addr)
   (m : Str → Option Value)
   (s : Shared)
   (Q E : Value → Shared → Prop)
   (B : Below A₀ h₀ [] h₀)
   (F : Fr h₀ L s.heap m)
   (X : (Mine.x.heap_1_39 w.params).In h₀)
   (N : News h₀ L s.heap news)
   (T : Top Mine.x.view_1_40 (looseW Mine.x.view_1_40 [Str.ofString "SnobolError"]) mean mg mb h₀)
   (hk : cs.kind = .function)
   (hdp : dp + 60 < recursionLimit)
   (hun : un + 500 < cLine)
   (i j : Int)
   (ti tj to : Tok)
   (hi : -10000000 ≤ i ∧ i ≤ 10000000)
   (hj : -10000000 ≤ j ∧ j ≤ 10000000)
   (hj0 : j ≠ 0)
   (hret : ∀ (t : Tok) (h' : Heap) (tk' : Nat), Fr h₀ L h' m → News h₀ L h' news → Q (val (fit W (i.tdiv j)) t) { s with heap := h', toks := tk' }),
   wpAny (model PySem.Challenge.rw_tk0106_01.row.prog w) (ktrTop dp un gd cn cs L a ccd cl []) (call (.ref 255) [.ref x, .str (Str.ofString "/") to, .int i ti, .int j tj]) Q E s) := by
    as_aux_lemma =>
      apply Classical.byContradiction
      intro hN0
      apply_assumption (exfalso := false) (symm := false) only [(((by
        apply hN0
        clear hN0
        w_top off
        have mk1 : Mine.Tg 1 := ⟨trivial⟩
        refine ⟨?_⟩
        intro w mean mg mb news x dx es n W tw hx hdx hw hW dp un gd cn cs a ccd cl A₀ h₀ L m s Q E B F X N T hk hdp hun i j ti tj to hi hj hj0 hret
        revert X; k_fill; intro X
        have hp := pow_small W hW
        k_with_none
        refine wpAny_call ?_
        k_dflt cell_enter
        k_steps
        all_goals (refine' fin_ret (R := fun t => val (fit W (i.tdiv j)) t) hret ?ezz ?Fzz ?Nzz ?Szz; (case Fzz => assumption); (case Nzz => assumption); (case Szz => intro p hp; (repeat (first | exact hp | refine List.mem_cons_of_mem _ ?_))); (case ezz => first
         | exact absurd (by assumption) hj0
         | exact ⟨_, val_some (x := i.tdiv j) (by rw [← q_same (by assumption)]; omega) (q_same (by assumption)).symm _⟩
         | exact ⟨_, val_some (x := i.tdiv j) (by rw [← q_diff (by assumption)]; omega) (q_diff (by assumption)).symm _⟩
         | exact ⟨_, val_some (x := i.tdiv j) (by rw [← q_diff0 (by assumption)]; omega) (q_diff0 (by assumption)).symm _⟩
         | exact ⟨0, val_none (x := i.tdiv j) (by rw [← q_same (by assumption)]; omega) _⟩
         | exact ⟨0, val_none (x := i.tdiv j) (by rw [← q_diff (by assumption)]; omega) _⟩
         | exact ⟨0, val_none (x := i.tdiv j) (by rw [← q_diff0 (by assumption)]; omega) _⟩))) : False) :)]
  have made_divI : Mine.Hide (∀ (w : World)
   (mean : ExcName → Option Value)
   (mg mb : Str → Option Value)
   (news : List (Addr × Obj))
   (x dx : Addr)
   (es : List DictEntry)
   (n : Nat)
   (W : Int)
   (tw : Tok)
   (hx : (x, instObj 237 dx) ∈ news)
   (hdx : (dx, dictOf es n) ∈ news)
   (hw : getL (Str.ofString "width") es = some (some (.int W tw)))
   (hW : 5 ≤ W ∧ W ≤ 12)
   (dp un : Nat)
   (gd : Option (List Code))
   (cn : Str)
   (cs : Scope)
   (a : Addr)
   (ccd : Value)
   (cl : List (Str × Addr))
   (A₀ : Around)
   (h₀ : Heap)
   (L : Addr)
   (m : Str → Option Value)
   (s : Shared)
   (Q E : Value → Shared → Prop)
   (B : Below A₀ h₀ [] h₀)
   (F : Fr h₀ L s.heap m)
   (X : (Mine.x.heap_1_39 w.params).In h₀)
   (N : News h₀ L s.heap news)
   (T : Top Mine.x.view_1_40 (looseW Mine.x.view_1_40 [Str.ofString "SnobolError"]) mean mg mb h₀)
   (hk : cs.kind = .function)
   (hdp : dp + 60 < recursionLimit)
   (hun : un + 500 < cLine)
   (i j : Int)
   (ti tj to : Tok)
   (hi : -(2 : Int) ^ (W - 1).toNat ≤ i ∧ i < (2 : Int) ^ (W - 1).toNat)
   (hj : -10000000 ≤ j ∧ j ≤ 10000000)
   (hj0 : j ≠ 0)
   (hq : -(2 : Int) ^ (W - 1).toNat ≤ i.tdiv j ∧ i.tdiv j < (2 : Int) ^ (W - 1).toNat)
   (hret : ∀ (t : Tok) (h' : Heap) (tk' : Nat), Fr h₀ L h' m → News h₀ L h' news → Q (.int (i.tdiv j) t) { s with heap := h', toks := tk' }),
   wpAny (model PySem.Challenge.rw_tk0106_01.row.prog w) (ktrTop dp un gd cn cs L a ccd cl []) (call (.ref 248) [.ref x, .str (Str.ofString "/") to, .int i ti, .int j tj]) Q E s) := by
    as_aux_lemma =>
      apply Classical.byContradiction
      intro hN0
      apply_assumption (exfalso := false) (symm := false) only [(((by
        apply hN0
        clear hN0
        w_top off
        have mk0 : Mine.Tg 0 := ⟨trivial⟩
        refine ⟨?_⟩
        intro w mean mg mb news x dx es n W tw hx hdx hw hW dp un gd cn cs a ccd cl A₀ h₀ L m s Q E B F X N T hk hdp hun i j ti tj to hi hj hj0 hq hret
        exact (made_div.out) w mean mg mb news x dx es n W tw hx hdx hw hW dp un gd cn cs a ccd cl A₀ h₀ L m s Q E B F X N T hk hdp hun i j ti tj to hi hj hj0 (fun t h' tk' F N => by rw [val_some hq rfl]; exact hret t h' tk' F N)) : False) :)]
  have made_divN : Mine.Hide (∀ (w : World)
   (mean : ExcName → Option Value)
   (mg mb : Str → Option Value)
   (news : List (Addr × Obj))
   (x dx : Addr)
   (es : List DictEntry)
   (n : Nat)
   (W : Int)
   (tw : Tok)
   (hx : (x, instObj 237 dx) ∈ news)
   (hdx : (dx, dictOf es n) ∈ news)
   (hw : getL (Str.ofString "width") es = some (some (.int W tw)))
   (hW : 5 ≤ W ∧ W ≤ 12)
   (dp un : Nat)
   (gd : Option (List Code))
   (cn : Str)
   (cs : Scope)
   (a : Addr)
   (ccd : Value)
   (cl : List (Str × Addr))
   (A₀ : Around)
   (h₀ : Heap)
   (L : Addr)
   (m : Str → Option Value)
   (s : Shared)
   (Q E : Value → Shared → Prop)
   (B : Below A₀ h₀ [] h₀)
   (F : Fr h₀ L s.heap m)
   (X : (Mine.x.heap_1_39 w.params).In h₀)
   (N : News h₀ L s.heap news)
   (T : Top Mine.x.view_1_40 (looseW Mine.x.view_1_40 [Str.ofString "SnobolError"]) mean mg mb h₀)
   (hk : cs.kind = .function)
   (hdp : dp + 60 < recursionLimit)
   (hun : un + 500 < cLine)
   (i j : Int)
   (ti tj to : Tok)
   (hi : -(2 : Int) ^ (W - 1).toNat ≤ i ∧ i < (2 : Int) ^ (W - 1).toNat)
   (hj : -10000000 ≤ j ∧ j ≤ 10000000)
   (hj0 : j ≠ 0)
   (hq : ¬ (-(2 : Int) ^ (W - 1).toNat ≤ i.tdiv j ∧ i.tdiv j < (2 : Int) ^ (W - 1).toNat))
   (hret : ∀ (t : Tok) (h' : Heap) (tk' : Nat), Fr h₀ L h' m → News h₀ L h' news → Q (.none) { s with heap := h', toks := tk' }),
   wpAny (model PySem.Challenge.rw_tk0106_01.row.prog w) (ktrTop dp un gd cn cs L a ccd cl []) (call (.ref 248) [.ref x, .str (Str.ofString "/") to, .int i ti, .int j tj]) Q E s) := by
    as_aux_lemma =>
      apply Classical.byContradiction
      intro hN0
      apply_assumption (exfalso := false) (symm := false) only [(((by
        apply hN0
        clear hN0
        w_top off
        have mk0 : Mine.Tg 0 := ⟨trivial⟩
        refine ⟨?_⟩
        intro w mean mg mb news x dx es n W tw hx hdx hw hW dp un gd cn cs a ccd cl A₀ h₀ L m s Q E B F X N T hk hdp hun i j ti tj to hi hj hj0 hq hret
        exact (made_div.out) w mean mg mb news x dx es n W tw hx hdx hw hW dp un gd cn cs a ccd cl A₀ h₀ L m s Q E B F X N T hk hdp hun i j ti tj to hi hj hj0 (fun t h' tk' F N => by rw [val_none hq]; exact hret t h' tk' F N)) : False) :)]
  have made_divS : Mine.Hide (∀ (w : World)
   (mean : ExcName → Option Value)
   (mg mb : Str → Option Value)
   (news : List (Addr × Obj))
   (x dx : Addr)
   (es : List DictEntry)
   (n : Nat)
   (W : Int)
   (tw : Tok)
   (hx : (x, instObj 237 dx) ∈ news)
   (hdx : (dx, dictOf es n) ∈ news)
   (hw : getL (Str.ofString "width") es = some (some (.int W tw)))
   (hW : 5 ≤ W ∧ W ≤ 12)
   (dp un : Nat)
   (gd : Option (List Code))
   (cn : Str)
   (cs : Scope)
   (a : Addr)
   (ccd : Value)
   (cl : List (Str × Addr))
   (A₀ : Around)
   (h₀ : Heap)
   (L : Addr)
   (m : Str → Option Value)
   (s : Shared)
   (Q E : Value → Shared → Prop)
   (B : Below A₀ h₀ [] h₀)
   (F : Fr h₀ L s.heap m)
   (X : (Mine.x.heap_1_39 w.params).In h₀)
   (N : News h₀ L s.heap news)
   (T : Top Mine.x.view_1_40 (looseW Mine.x.view_1_40 [Str.ofString "SnobolError"]) mean mg mb h₀)
   (hk : cs.kind = .function)
   (hdp : dp + 60 < recursionLimit)
   (hun : un + 500 < cLine)
   (i j : Int)
   (ti tj to : Tok)
   (hi : -(2 : Int) ^ (W - 1).toNat ≤ i ∧ i < (2 : Int) ^ (W - 1).toNat)
   (hj : -10000000 ≤ j ∧ j ≤ 10000000)
   (hj0 : j ≠ 0)
   (hs : (-(2 : Int) ^ (W - 1).toNat ≤ i.tdiv j ∧ i.tdiv j < (2 : Int) ^ (W - 1).toNat) → ∀ (t : Tok) (h' : Heap) (tk' : Nat), Fr h₀ L h' m → News h₀ L h' news → Q (.int (i.tdiv j) t) { s with heap := h', toks := tk' })
   (hn : ¬ (-(2 : Int) ^ (W - 1).toNat ≤ i.tdiv j ∧ i.tdiv j < (2 : Int) ^ (W - 1).toNat) → ∀ (t : Tok) (h' : Heap) (tk' : Nat), Fr h₀ L h' m → News h₀ L h' news → Q (.none) { s with heap := h', toks := tk' }),
   wpAny (model PySem.Challenge.rw_tk0106_01.row.prog w) (ktrTop dp un gd cn cs L a ccd cl []) (call (.ref 248) [.ref x, .str (Str.ofString "/") to, .int i ti, .int j tj]) Q E s) := by
    as_aux_lemma =>
      apply Classical.byContradiction
      intro hN0
      apply_assumption (exfalso := false) (symm := false) only [(((by
        apply hN0
        clear hN0
        w_top off
        have mk0 : Mine.Tg 0 := ⟨trivial⟩
        refine ⟨?_⟩
        intro w mean mg mb news x dx es n W tw hx hdx hw hW dp un gd cn cs a ccd cl A₀ h₀ L m s Q E B F X N T hk hdp hun i j ti tj to hi hj hj0 hs hn
        by_cases hq : -(2 : Int) ^ (W - 1).toNat ≤ i.tdiv j ∧ i.tdiv j < (2 : Int) ^ (W - 1).toNat
        · exact (made_divI.out) w mean mg mb news x dx es n W tw hx hdx hw hW dp un gd cn cs a ccd cl A₀ h₀ L m s Q E B F X N T hk hdp hun i j ti tj to hi hj hj0 hq (hs hq)
        · exact (made_divN.out) w mean mg mb news x dx es n W tw hx hdx hw hW dp un gd cn cs a ccd cl A₀ h₀ L m s Q E B F X N T hk hdp hun i j ti tj to hi hj hj0 hq (hn hq)) : False) :)]
  have due_divI : Mine.Hide (∀ (w : World)
   (mean : ExcName → Option Value)
   (mg mb : Str → Option Value)
   (news : List (Addr × Obj))
   (x dx : Addr)
   (es : List DictEntry)
   (n : Nat)
   (W : Int)
   (tw : Tok)
   (hx : (x, instObj 237 dx) ∈ news)
   (hdx : (dx, dictOf es n) ∈ news)
   (hw : getL (Str.ofString "width") es = some (some (.int W tw)))
   (hW : 5 ≤ W ∧ W ≤ 12)
   (dp un : Nat)
   (gd : Option (List Code))
   (cn : Str)
   (cs : Scope)
   (a : Addr)
   (ccd : Value)
   (cl : List (Str × Addr))
   (A₀ : Around)
   (h₀ : Heap)
   (L : Addr)
   (m : Str → Option Value)
   (s : Shared)
   (Q E : Value → Shared → Prop)
   (B : Below A₀ h₀ [] h₀)
   (F : Fr h₀ L s.heap m)
   (X : (Mine.x.heap_1_39 w.params).In h₀)
   (N : News h₀ L s.heap news)
   (T : Top Mine.x.view_1_40 (looseW Mine.x.view_1_40 [Str.ofString "SnobolError"]) mean mg mb h₀)
   (hk : cs.kind = .function)
   (hdp : dp + 60 < recursionLimit)
   (hun : un + 500 < cLine)
   (i j : Int)
   (ti tj to : Tok)
   (hi : -10000000 ≤ i ∧ i ≤ 10000000)
   (hj : -10000000 ≤ j ∧ j ≤ 10000000)
   (hj0 : j ≠ 0)
   (hq : -(2 : Int) ^ (W - 1).toNat ≤ i.tdiv j ∧ i.tdiv j < (2 : Int) ^ (W - 1).toNat)
   (hret : ∀ (t : Tok) (h' : Heap) (tk' : Nat), Fr h₀ L h' m → News h₀ L h' news → Q (.int (i.tdiv j) t) { s with heap := h', toks := tk' }),
   wpAny (model PySem.Challenge.rw_tk0106_01.row.prog w) (ktrTop dp un gd cn cs L a ccd cl []) (call (.ref 255) [.ref x, .str (Str.ofString "/") to, .int i ti, .int j tj]) Q E s) := by
    as_aux_lemma =>
      apply Classical.byContradiction
      intro hN0
      apply_assumption (exfalso := false) (symm := false) only [(((by
        apply hN0
        clear hN0
        w_top off
        have mk0 : Mine.Tg 0 := ⟨trivial⟩
        refine ⟨?_⟩
        intro w mean mg mb news x dx es n W tw hx hdx hw hW dp un gd cn cs a ccd cl A₀ h₀ L m s Q E B F X N T hk hdp hun i j ti tj to hi hj hj0 hq hret
        exact (due_div.out) w mean mg mb news x dx es n W tw hx hdx hw hW dp un gd cn cs a ccd cl A₀ h₀ L m s Q E B F X N T hk hdp hun i j ti tj to hi hj hj0 (fun t h' tk' F N => by rw [val_some hq rfl]; exact hret t h' tk' F N)) : False) :)]
  have due_divN : Mine.Hide (∀ (w : World)
   (mean : ExcName → Option Value)
   (mg mb : Str → Option Value)
   (news : List (Addr × Obj))
   (x dx : Addr)
   (es : List DictEntry)
   (n : Nat)
   (W : Int)
   (tw : Tok)
   (hx : (x, instObj 237 dx) ∈ news)
   (hdx : (dx, dictOf es n) ∈ news)
   (hw : getL (Str.ofString "width") es = some (some (.int W tw)))
   (hW : 5 ≤ W ∧ W ≤ 12)
   (dp un : Nat)
   (gd : Option (List Code))
   (cn : Str)
   (cs : Scope)
   (a : Addr)
   (ccd : Value)
   (cl : List (Str × Addr))
   (A₀ : Around)
   (h₀ : Heap)
   (L : Addr)
   (m : Str → Option Value)
   (s : Shared)
   (Q E : Value → Shared → Prop)
   (B : Below A₀ h₀ [] h₀)
   (F : Fr h₀ L s.heap m)
   (X : (Mine.x.heap_1_39 w.params).In h₀)
   (N : News h₀ L s.heap news)
   (T : Top Mine.x.view_1_40 (looseW Mine.x.view_1_40 [Str.ofString "SnobolError"]) mean mg mb h₀)
   (hk : cs.kind = .function)
   (hdp : dp + 60 < recursionLimit)
   (hun : un + 500 < cLine)
   (i j : Int)
   (ti tj to : Tok)
   (hi : -10000000 ≤ i ∧ i ≤ 10000000)
   (hj : -10000000 ≤ j ∧ j ≤ 10000000)
   (hj0 : j ≠ 0)
   (hq : ¬ (-(2 : Int) ^ (W - 1).toNat ≤ i.tdiv j ∧ i.tdiv j < (2 : Int) ^ (W - 1).toNat))
   (hret : ∀ (t : Tok) (h' : Heap) (tk' : Nat), Fr h₀ L h' m → News h₀ L h' news → Q (.none) { s with heap := h', toks := tk' }),
   wpAny (model PySem.Challenge.rw_tk0106_01.row.prog w) (ktrTop dp un gd cn cs L a ccd cl []) (call (.ref 255) [.ref x, .str (Str.ofString "/") to, .int i ti, .int j tj]) Q E s) := by
    as_aux_lemma =>
      apply Classical.byContradiction
      intro hN0
      apply_assumption (exfalso := false) (symm := false) only [(((by
        apply hN0
        clear hN0
        w_top off
        have mk0 : Mine.Tg 0 := ⟨trivial⟩
        refine ⟨?_⟩
        intro w mean mg mb news x dx es n W tw hx hdx hw hW dp un gd cn cs a ccd cl A₀ h₀ L m s Q E B F X N T hk hdp hun i j ti tj to hi hj hj0 hq hret
        exact (due_div.out) w mean mg mb news x dx es n W tw hx hdx hw hW dp un gd cn cs a ccd cl A₀ h₀ L m s Q E B F X N T hk hdp hun i j ti tj to hi hj hj0 (fun t h' tk' F N => by rw [val_none hq]; exact hret t h' tk' F N)) : False) :)]
  have made_restI : Mine.Hide (∀ (w : World)
   (mean : ExcName → Option Value)
   (mg mb : Str → Option Value)
   (news : List (Addr × Obj))
   (x dx : Addr)
   (es : List DictEntry)
   (n : Nat)
   (W : Int)
   (tw : Tok)
   (hx : (x, instObj 237 dx) ∈ news)
   (hdx : (dx, dictOf es n) ∈ news)
   (hw : getL (Str.ofString "width") es = some (some (.int W tw)))
   (hW : 5 ≤ W ∧ W ≤ 12)
   (dp un : Nat)
   (gd : Option (List Code))
   (cn : Str)
   (cs : Scope)
   (a : Addr)
   (ccd : Value)
   (cl : List (Str × Addr))
   (A₀ : Around)
   (h₀ : Heap)
   (L : Addr)
   (m : Str → Option Value)
   (s : Shared)
   (Q E : Value → Shared → Prop)
   (B : Below A₀ h₀ [] h₀)
   (F : Fr h₀ L s.heap m)
   (X : (Mine.x.heap_1_39 w.params).In h₀)
   (N : News h₀ L s.heap news)
   (T : Top Mine.x.view_1_40 (looseW Mine.x.view_1_40 [Str.ofString "SnobolError"]) mean mg mb h₀)
   (hk : cs.kind = .function)
   (hdp : dp + 60 < recursionLimit)
   (hun : un + 500 < cLine)
   (i j : Int)
   (ti tj : Tok)
   (hi : -10000000 ≤ i ∧ i ≤ 10000000)
   (hj : -(2 : Int) ^ (W - 1).toNat ≤ j ∧ j < (2 : Int) ^ (W - 1).toNat)
   (hj0 : j ≠ 0)
   (hret : ∀ (t : Tok) (h' : Heap) (tk' : Nat), Fr h₀ L h' m → News h₀ L h' news → Q (.int (i.tmod j) t) { s with heap := h', toks := tk' }),
   wpAny (model PySem.Challenge.rw_tk0106_01.row.prog w) (ktrTop dp un gd cn cs L a ccd cl []) (call (.ref 262) [.ref x, .int i ti, .int j tj]) Q E s) := by
    as_aux_lemma =>
      apply Classical.byContradiction
      intro hN0
      apply_assumption (exfalso := false) (symm := false) only [(((by
        apply hN0
        clear hN0
        w_top off
        have mk0 : Mine.Tg 0 := ⟨trivial⟩
        refine ⟨?_⟩
        intro w mean mg mb news x dx es n W tw hx hdx hw hW dp un gd cn cs a ccd cl A₀ h₀ L m s Q E B F X N T hk hdp hun i j ti tj hi hj hj0 hret
        exact (made_rest.out) w mean mg mb news x dx es n W tw hx hdx hw hW dp un gd cn cs a ccd cl A₀ h₀ L m s Q E B F X N T hk hdp hun i j ti tj hi hj hj0 (fun t h' tk' F N => by rw [val_some (tmod_fit hj hj0) rfl]; exact hret t h' tk' F N)) : False) :)]
  apply Classical.byContradiction
  intro hN0
  apply_assumption (exfalso := false) (symm := false) only [(((by
    apply hN0
    clear hN0
    have mk5 : Mine.Tg 5 := ⟨trivial⟩
    k_go0; (all_goals try k_fold)
    repeat' (first | (k_unfold; (try dsimp only)) | (k_end; wrow_close) | ((fail_if_success (with_reducible show wpAny _ _ (exec (Stmt.Assign [PySem.Expr.Tuple _ _ _] _ _) _) _ _ _)); walk1) | (dsimp only; (fail_if_success (with_reducible show wpAny _ _ (exec (Stmt.Assign [PySem.Expr.Tuple _ _ _] _ _) _) _ _ _)); walk1) | (leave1; try dsimp only) | fail "no step")
    w_top off
    apply Classical.byContradiction
    intro hN0
    apply_assumption (exfalso := false) (symm := false) only [(((by
      apply hN0
      clear hN0
      rename Mine.Tg 5 => mk5
      clear mk5
      have mk6 : Mine.Tg 6 := ⟨trivial⟩
      apply Classical.byContradiction
      intro hN0
      apply_assumption (exfalso := false) (symm := false) only [(((by
        apply hN0
        clear hN0
        refine Assign_Tuple ?_
        k_dflt (refine ListComp_T (F₀ := by k_asm) (by with_unfolding_all rfl) (by decide) (by rfl) (by decide) (by rfl) ?_)
        iterate 7 walk1
        k_dflt (refine SrcT.ledger (by rfl) (by k_asm) (by k_asm) (by k_mem) (by first | size_fits | exact Nat.le_of_ble_eq_true rfl) ?_; intro g'; lcg_lit)
        iterate 14 walk1
        dsimp only
        walk1
        iterate 14 walk1
        dsimp only
        walk1
        walk1
        walk1
        repeat' (first | ((fail_if_success (with_reducible show wpAny _ _ (exec (Stmt.While _ _ _ _) _) _ _ _)); walk1) | (dsimp only; (fail_if_success (with_reducible show wpAny _ _ (exec (Stmt.While _ _ _ _) _) _ _ _)); walk1))
        rename Mine.Tg 6 => mk6
        clear mk6
        have mk7 : Mine.Tg 7 := ⟨trivial⟩
        apply Classical.byContradiction
        intro hN0
        apply_assumption (exfalso := false) (symm := false) only [(((by
          apply hN0
          clear hN0
          rename Fr _ _ _ _ => lF'
          rename News _ _ _ _ => lN'
          k_dflt (refine' law_whileW lF' lN' rfl rfl rfl rfl rfl rfl rfl rfl rfl ?n1zz ?n2zz ?n3zz ?n4zz ?n5zz ?n6zz ?o1zz ?o2zz ?o3zz ?o4zz ?o5zz ?hczz ?hwzz ?hWzz ?turnzz; (case hwzz => assumption); (case hczz => assumption); (case n1zz => k_mem); (case n2zz => k_mem); (case n3zz => k_mem); (case n4zz => k_mem); (case n5zz => k_mem); (case n6zz => k_mem); (case o1zz => k_ne); (case o2zz => k_ne); (case o3zz => k_ne); (case o4zz => k_ne); (case o5zz => k_ne); (case hWzz => omega))
          rintro f g W ⟨one, other, sign, p0, p1, a0, a1, t1, t2, t3, t4, t5, t6, t7, qs, vs, nn, pa, aa, la⟩ u h tk hw hW hc rf rg kf kg fc iv lF lN
          clear lF' lN'
          apply Classical.byContradiction
          intro hN0
          apply_assumption (exfalso := false) (symm := false) only [(((by
            apply hN0
            clear hN0
            simp only [led, pst, fcs, inv] at fc iv lF lN
            k_dflt (have e1 := int_of kf rfl)
            k_dflt (have e2 := int_of kg rfl)
            obtain ⟨fc1, fc2, fc3, fc4, fc5, fc6, fc7⟩ := fc
            have r1 := Mine.Inv.r1 ‹_›
            have r2 := Mine.Inv.r2 ‹_›
            have sm := Mine.Inv.small ‹_›
            have pw := pow_small _ ‹_›
            iterate 6 walk1
            rotate_left
            focus
              apply Classical.byContradiction
              intro hN0
              apply_assumption (exfalso := false) (symm := false) only [(((by
                apply hN0
                clear hN0
                subst_vars
                rename Mine.Inv _ _ _ _ _ _ _ _ _ _ _ => iv
                have hl := Mine.Inv.len iv
                have ie := inv_end iv
                repeat' (first | ((fail_if_success (with_reducible show wpAny _ _ (exec (Stmt.For _ (PySem.Expr.Subscript _ _ _) _ _ _) _) _ _ _)); walk1) | (dsimp only; (fail_if_success (with_reducible show wpAny _ _ (exec (Stmt.For _ (PySem.Expr.Subscript _ _ _) _ _ _) _) _ _ _)); walk1))
                all_goals (try (exfalso; first | exact absurd ie.1 (by assumption) | exact absurd ie.2.1 (by assumption)))
                k_here
                rename Fr _ _ _ _ => lF'
                with_unfolding_all refine' For_invVF lF' ?k1zz ?k2zz ?_
                case k1zz => exact rfl
                case k2zz => exact rfl
                k_whole
                repeat' (first | ((fail_if_success (with_reducible show wpAny _ _ (subscriptTail _ (PySem.Expr.Slice none none (some _) _) _ _) _ _ _)); walk1) | (dsimp only; (fail_if_success (with_reducible show wpAny _ _ (subscriptTail _ (PySem.Expr.Slice none none (some _) _) _ _) _ _ _)); walk1))
                rename Mine.Inv _ _ _ _ _ _ _ _ _ _ _ => iv
                rename News _ _ _ _ => nE'
                rename Fr _ _ _ _ => fE'
                k_here
                k_dflt (refine' krv_ints fE' nE' ?lzz ?kzz ?izz ?_ ?szz ?tzz ?zzz)
                case kzz => exact IsPart.int _ _
                case izz => assumption
                case lzz => exact islist_of nE' (by k_mem)
                case szz => with_unfolding_all rfl
                case tzz => kmk_pure
                case zzz => size_fits
                intro D' ws' h' F' N' l1 hI' hC'; (try k_lt l1); (try k_sweep)
                show wpAny _ _ _ _ _ _
                try dsimp only
                k_dflt (refine' law_back ?ivzz ?hrzz ?hhzz ?hizz ?Fzz ?Nzz ?kbzz ?kpzz ?n1zz ?n2zz ?n3zz ?bturnzz ?donezz)
                case Fzz => exact F'
                case Nzz => exact N'
                case ivzz => exact iv
                case hizz => exact hI'
                case hrzz => exact rfl
                case hhzz => exact rfl
                case kbzz => exact rfl
                case kpzz => exact rfl
                case n1zz => k_mem
                case n2zz => k_mem
                case n3zz => k_mem
                case bturnzz =>
                  apply Classical.byContradiction
                  intro hN0
                  apply_assumption (exfalso := false) (symm := false) only [(((by
                    apply hN0
                    clear hN0
                    clear F' N'
                    intro b0 b1 n t u0 u1 bb u h tk news hb hm lF lN
                    dsimp only [tupObj] at hm
                    k_sweep
                    repeat' (first | walk1 | (dsimp only; walk1))
                    rename News _ _ _ _ => nE'
                    rename Fr _ _ _ _ => fE'
                    k_dflt (refine bk_end fE' nE' (by assumption) rfl ?bhrzz)
                    intro z h2 h3
                    dsimp only [kstB]
                    simp only [h2, h3, if_false, List.contains_nil, Bool.false_eq_true]) : False) :)]
                case donezz =>
                  apply Classical.byContradiction
                  intro hN0
                  apply_assumption (exfalso := false) (symm := false) only [(((by
                    apply hN0
                    clear hN0
                    clear F' N'
                    intro u0 u1 bb u h tk news hm hm2 lF lN
                    dsimp only [tupObj] at hm hm2
                    k_sweep
                    repeat' (first | walk1 | (dsimp only; walk1))
                    show GoodW _ _ _ _ _ (.ok (.ret (.bool _))) _
                    wrow_close) : False) :)]) : False) :)]
            have dv := Mine.Inv.dv ‹_› ‹_›
            repeat' (first | ((fail_if_success (with_reducible show wpAny _ _ (isTrue (Expr.BoolOp BoolOp.And _ _) _ _) _ _ _)); walk1) | (dsimp only; (fail_if_success (with_reducible show wpAny _ _ (isTrue (Expr.BoolOp BoolOp.And _ _) _ _) _ _ _)); walk1))
            all_goals (try (exfalso; first | exact absurd rfl (by assumption) | exact absurd dv.1 (by assumption) | ((have := dv.2.1); omega)))
            all_goals (try (have qn := quot_none (by omega) r1 (by assumption) dv (by assumption)))
            all_goals (try (exfalso; omega))
            focus
              apply Classical.byContradiction
              intro hN0
              apply_assumption (exfalso := false) (symm := false) only [(((by
                apply hN0
                clear hN0
                rename Mine.Inv _ _ _ _ _ _ _ _ _ _ _ => iv
                rename Dv _ _ _ _ => dv
                k_dflt (refine quiet (by k_asm) (by k_asm) ?h1zz ?h2zz)
                case h1zz =>
                  apply Classical.byContradiction
                  intro hN0
                  apply_assumption (exfalso := false) (symm := false) only [(((by
                    apply hN0
                    clear hN0
                    repeat' (first | walk1 | (dsimp only; walk1))
                    all_goals first | exact quiet_end (by k_asm) (by k_asm) (fun p hp => hp) | exact (sign_end dv (by assumption) (by assumption)).elim) : False) :)]
                case h2zz =>
                  apply Classical.byContradiction
                  intro hN0
                  apply_assumption (exfalso := false) (symm := false) only [(((by
                    apply hN0
                    clear hN0
                    intro h9 tk9 F9 N9
                    k_sweep
                    dsimp only
                    repeat' (first | ((fail_if_success (with_reducible show wpAny _ _ (isTrue (Expr.BoolOp BoolOp.And _ _) _ _) _ _ _)); walk1) | (dsimp only; (fail_if_success (with_reducible show wpAny _ _ (isTrue (Expr.BoolOp BoolOp.And _ _) _ _) _ _ _)); walk1))
                    rename Fr _ _ _ _ => lF
                    rename News _ _ _ _ => lN
                    k_dflt (refine quiet lF lN ?h1zz ?h2zz)
                    case h1zz =>
                      apply Classical.byContradiction
                      intro hN0
                      apply_assumption (exfalso := false) (symm := false) only [(((by
                        apply hN0
                        clear hN0
                        repeat' (first | ((fail_if_success (with_reducible show wpAny _ _ (compareOp CmpOp.IsNot (val _ _) _) _ _ _)); walk1) | (dsimp only; (fail_if_success (with_reducible show wpAny _ _ (compareOp CmpOp.IsNot (val _ _) _) _ _ _)); walk1))
                        k_dflt (refine isnot_val ?azz ?bzz)
                        case azz =>
                          apply Classical.byContradiction
                          intro hN0
                          apply_assumption (exfalso := false) (symm := false) only [(((by
                            apply hN0
                            clear hN0
                            intro hr e
                            rename Fr _ _ _ _ => lF'
                            rw [e] at lF'
                            repeat' (first | walk1 | (dsimp only; walk1))
                            all_goals first | (rw [e]; exact quiet_end (by k_asm) (by k_asm) (fun p hp => hp)) | exact absurd rfl (by assumption)) : False) :)]
                        case bzz =>
                          apply Classical.byContradiction
                          intro hN0
                          apply_assumption (exfalso := false) (symm := false) only [(((by
                            apply hN0
                            clear hN0
                            intro e
                            repeat' (first | walk1 | (dsimp only; walk1))
                            all_goals exact quiet_end (by k_asm) (by k_asm) (fun p hp => hp)) : False) :)]) : False) :)]
                    case h2zz =>
                      apply Classical.byContradiction
                      intro hN0
                      apply_assumption (exfalso := false) (symm := false) only [(((by
                        apply hN0
                        clear hN0
                        intro h9 tk9 F9 N9
                        k_sweep
                        dsimp only
                        rename Mine.Inv _ _ _ _ _ _ _ _ _ _ _ => iv
                        rename Dv _ _ _ _ => dv
                        repeat' (first | ((fail_if_success (with_reducible show wpAny _ _ (isTrue (Expr.BoolOp BoolOp.And _ _) _ _) _ _ _)); walk1) | (dsimp only; (fail_if_success (with_reducible show wpAny _ _ (isTrue (Expr.BoolOp BoolOp.And _ _) _ _) _ _ _)); walk1))
                        rename Fr _ _ _ _ => lF
                        rename News _ _ _ _ => lN
                        k_dflt (refine quiet lF lN ?h1zz ?h2zz)
                        case h1zz =>
                          apply Classical.byContradiction
                          intro hN0
                          apply_assumption (exfalso := false) (symm := false) only [(((by
                            apply hN0
                            clear hN0
                            repeat' (first | ((fail_if_success (with_reducible show wpAny _ _ (compareOp CmpOp.IsNot (val _ _) _) _ _ _)); walk1) | (dsimp only; (fail_if_success (with_reducible show wpAny _ _ (compareOp CmpOp.IsNot (val _ _) _) _ _ _)); walk1))
                            k_dflt (refine isnot_val ?azz ?bzz)
                            case azz =>
                              apply Classical.byContradiction
                              intro hN0
                              apply_assumption (exfalso := false) (symm := false) only [(((by
                                apply hN0
                                clear hN0
                                intro hr e
                                rename Fr _ _ _ _ => lF'
                                rw [e] at lF'
                                repeat' (first | walk1 | (dsimp only; walk1))
                                all_goals first | (rw [e]; exact quiet_end (by k_asm) (by k_asm) (fun p hp => hp)) | exact absurd rfl (by assumption)) : False) :)]
                            case bzz =>
                              apply Classical.byContradiction
                              intro hN0
                              apply_assumption (exfalso := false) (symm := false) only [(((by
                                apply hN0
                                clear hN0
                                intro e
                                repeat' (first | walk1 | (dsimp only; walk1))
                                all_goals exact quiet_end (by k_asm) (by k_asm) (fun p hp => hp)) : False) :)]) : False) :)]
                        case h2zz =>
                          apply Classical.byContradiction
                          intro hN0
                          apply_assumption (exfalso := false) (symm := false) only [(((by
                            apply hN0
                            clear hN0
                            intro h9 tk9 F9 N9
                            k_sweep
                            dsimp only
                            rename Mine.Inv _ _ _ _ _ _ _ _ _ _ _ => iv
                            rename Dv _ _ _ _ => dv
                            have hl := Mine.Inv.len iv
                            repeat' (first | ((fail_if_success (with_reducible show KswPost _ _ _ _ _ _ _ _ _ _ _ _ _ _)); walk1) | (dsimp only; (fail_if_success (with_reducible show KswPost _ _ _ _ _ _ _ _ _ _ _ _ _ _)); walk1))
                            all_goals (try exact absurd (det_turn iv _) (by assumption))
                            rename Mine.Inv _ _ _ _ _ _ _ _ _ _ _ => iv
                            rename Dv _ _ _ _ => dv
                            rename News _ _ _ _ => nE'
                            rename Fr _ _ _ _ => fE'
                            k_dflt (refine' turn_end iv ?hBzz ?rfzz ?rgzz ?hozz dv rfl fE' nE' rfl rfl rfl rfl rfl rfl ?n1zz ?n2zz ?n3zz ?n4zz ?n5zz ?n6zz ?f1zz ?f2zz ?o1zz ?o2zz ?o3zz ?o4zz ?o5zz ?hrzz)
                            case hBzz => omega
                            case rfzz => assumption
                            case rgzz => assumption
                            case hozz => assumption
                            case n1zz => k_mem
                            case n2zz => k_mem
                            case n3zz => k_mem
                            case n4zz => k_mem
                            case n5zz => k_mem
                            case n6zz => k_mem
                            case f1zz => assumption
                            case f2zz => assumption
                            case o1zz => k_ne
                            case o2zz => k_ne
                            case o3zz => assumption
                            case o4zz => assumption
                            case o5zz => assumption
                            case hrzz =>
                              intro z h2 h3
                              have h4 := h3
                              simp only [List.forall_mem_cons, List.not_mem_nil, false_implies, implies_true, and_true, ne_eq] at h2
                              simp only [kept, List.contains_cons, List.contains_nil, Bool.or_false, Bool.or_eq_false_iff, beq_eq_false_iff_ne, ne_eq] at h4
                              dsimp only [kstB]
                              simp only [h2, h3, h4, if_false, Bool.false_eq_true]) : False) :)]) : False) :)]) : False) :)]) : False) :)]
            focus
              rename _ ∧ _ ∧ _ = 0 => qn
              rw [qn.2.2]
              show GoodW _ _ _ _ _ (.ok (.ret (.bool _))) _
              wrow_close) : False) :)]) : False) :)]) : False) :)]) : False) :)]) : False) :)]
end Mine
theorem PySem.Challenge.cw_tk0106_01_holds : PySem.Challenge.rw_tk0106_01.Holds := by
  exact Mine.x
