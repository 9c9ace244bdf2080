import PyProof.Rows.All
import Wide.All
import OpenK.AllK
import Wide.FinOn
import PySem.Challenge.RW_pc0365_01
open PySem PySem.W PyProof.Rows
set_option Elab.async false
set_option rowWalk.seconds 0
namespace Mine
theorem rmA {n m c a : Nat} (h : n + m < c) (k : Nat.ble a m = true) : n + a < c := Nat.lt_of_le_of_lt (Nat.add_le_add_left (Nat.le_of_ble_eq_true k) n) h
theorem rmB {n m c a b : Nat} (h : n + m < c) (k : Nat.ble (a + b) m = true) : n + a + b < c := Nat.add_assoc n a b ▸ rmA h k
theorem rmC {n m c a b d : Nat} (h : n + m < c) (k : Nat.ble (a + b + d) m = true) : n + a + b + d < c := Nat.add_assoc n a b ▸ rmB h k
theorem pkH {a d b : Nat} {c : Prop} (h : a < d ∧ c) (k : (a < d ∧ c) → d ≠ b) : d ≠ b := k h
theorem pkL {a d b : Nat} {c : Prop} (h : a < d ∧ c) (k : (a < d ∧ c) → b ≠ d) : b ≠ d := k h
theorem pkS {x c G : Prop} (k : c → G) (h : x ∧ c) : G := k h.2
theorem pk1 {a d : Nat} {c : Prop} (h : a < d ∧ c) : d ≠ a := Nat.ne_of_gt h.1
theorem pk2 {a d : Nat} (h : a < d) : d ≠ a := Nat.ne_of_gt h
theorem pk3 {a d : Nat} {c : Prop} (h : a < d ∧ c) : a ≠ d := Nat.ne_of_lt h.1
theorem pk4 {a d : Nat} (h : a < d) : a ≠ d := Nat.ne_of_lt h
section
local macro_rules | `(tactic| o_head $_) => `(tactic| assumption)
set_option maxRecDepth 100000 in
theorem pre (h : PySem.Challenge.rw_pc0365_01.row.Holds) : PySem.Challenge.rw_pc0365_01.row.Holds := by
  k_head
end
end Mine

local macro_rules | `(tactic| k_all) => `(tactic| with_reducible assumption)
local macro_rules | `(tactic| walk_at $s:str) => `(tactic| k_extra $s)
local macro_rules | `(tactic| k_ne) => `(tactic| k_extra "ne")
local macro_rules | `(tactic| ktr_room) => `(tactic| k_extra "room")
local macro_rules | `(tactic| ktr_units) => `(tactic| k_extra "room")

section
open PySem PySem.W PyProof.Rows PySem.Calls
set_option Elab.async false
set_option maxRecDepth 100000
set_option maxHeartbeats 8000000
namespace Mine
theorem lnB0_0 : True := by
  k_with_none
  w_top off
  k_with "pk" => first | exact pk1 | exact pk2 | exact pk3 | exact pk4 | (refine pkS ?_; k_extra "pk")
  k_with "ne" => (refine neN ?_; (try dsimp only); with_reducible first | assumption | exact .symm (by assumption) | exact pk2 (by assumption) | exact pk4 (by assumption) | (refine pkH (by assumption) ?_; k_extra "pk") | (refine pkL (by assumption) ?_; k_extra "pk") | fail)
  k_with "room" => first | exact rmA (by assumption) rfl | exact rmB (by assumption) rfl | exact rmC (by assumption) rfl | fail
  trivial

theorem allLt_mem {d : Addr} : ∀ {l : List (Addr × Obj)}, AllLt d l → ∀ p ∈ l, p.1 < d
  | [], _, _, h => nomatch h
  | _ :: _, x, p, h => by
    rcases List.mem_cons.mp h with rfl | h
    · exact x.1
    · exact allLt_mem x.2 p h
theorem allLt_ne {d : Addr} {l : List (Addr × Obj)} (h : AllLt d l) : ∀ p ∈ l, p.1 ≠ d := fun p hp => Nat.ne_of_lt (allLt_mem h p hp)

theorem ledger_sub {h₀ h : Heap} {L : Addr} {l l' : List (Addr × Obj)} (N : News h₀ L h l) (hs : ∀ p ∈ l', p ∈ l) : News h₀ L h l' := fun p hp => N p (hs p hp)

theorem ledger_swap {h₀ h : Heap} {L : Addr} {a b : Addr × Obj} {l : List (Addr × Obj)} (N : News h₀ L h (a :: b :: l)) : News h₀ L h (b :: a :: l) := fun p hp => N p (by
  rcases List.mem_cons.mp hp with rfl | hp
  · exact .tail _ (.head _)
  · rcases List.mem_cons.mp hp with rfl | hp
    · exact .head _
    · exact .tail _ (.tail _ hp))

section
variable {prog : Program} {w : World} {A : Around} {E : Value → Shared → Prop} {s : Shared} {h₀ : Heap} {L : Addr} {m : Str → Option Value} {news : List (Addr × Obj)}
theorem item_written {value slice : PySem.Expr} {l : Addr} {vs : List Value} {n : Nat} {k : Int} {u : Tok} {v : Value} {Q : Value → Shared → Prop} (N : News h₀ L s.heap news) (hm : (l, listOf vs.toArray n) ∈ news)
    (h0 : 0 ≤ k) (hhi : k < 2 ^ 63) (hx : vs[k.toNat]? = some v) (h : Q v s)
    (hs : subscripted slice false (.ref l) (.int k u) = operate [.ref l, .int k u] (getItem (.ref l) (.int k u)) := by with_unfolding_all rfl) :
    wpAny (model prog w) A (subscriptTail value slice (.ref l) (.int k u)) Q E s :=
  have hl : s.heap.IsList l vs.toArray := News.isList N hm
  tail_any hl.typeIs slot_list_getitem.lookup (wpAny_getItem_list hl h0 hhi (by simpa using hx) h) hs
end
end Mine
end

section
open PySem PySem.W PyProof.Rows PySem.Calls
set_option Elab.async false
set_option maxRecDepth 100000
set_option maxHeartbeats 8000000
namespace Mine
theorem lnP1_0 : True := by
  k_with_none
  w_top off
  k_with "pk" => first | exact pk1 | exact pk2 | exact pk3 | exact pk4 | (refine pkS ?_; k_extra "pk")
  k_with "ne" => (refine neN ?_; (try dsimp only); with_reducible first | assumption | exact .symm (by assumption) | exact pk2 (by assumption) | exact pk4 (by assumption) | (refine pkH (by assumption) ?_; k_extra "pk") | (refine pkL (by assumption) ?_; k_extra "pk") | fail)
  k_with "room" => first | exact rmA (by assumption) rfl | exact rmB (by assumption) rfl | exact rmC (by assumption) rfl | fail
  trivial
section
variable {prog : Program} {w : World} {p : Program} {loose : List Str} {mean : ExcName → Option Value} {mg mb : Str → Option Value} {dp un : Nat} {gd : Option (List Code)} {cn : Str} {cs : Scope} {a : Addr} {ccd : Value} {cl : List (Str × Addr)} {outer : List Env} {A₀ : Around} {base h₀ : Heap} {L : Addr} {m : Str → Option Value} {s : Shared} {Q E : Value → Shared → Prop} {news : List (Addr × Obj)}


theorem lnP1_1 : True := by
  k_with "binaryOp FloorDiv int int" => (refine floordiv_int (by omega) ?_ (Or.inl (PyProof.noPylong_small (by omega))))
  k_with "binaryOp Mult int int" => ((try k_fmods); refine mul_int ?_ (IntMulOk.of_left (intBits_le_64 (by omega) (by omega))))
  k_with "subscriptTail Name Constant ref int" => (k_here; (with_reducible show wpAny _ _ (subscriptTail _ _ (Value.ref _) (Value.int _ _)) _ _ _); (with_unfolding_all refine' item_written ?k1Q3 ?k2Q3 ?k3Q3 ?k4Q3 ?k5Q3 ?_ ?k6Q3; (case k1Q3 => k_asm); (case k2Q3 => k_mem); (case k3Q3 => decide); (case k4Q3 => decide); (case k5Q3 => rfl); (case k6Q3 => with_unfolding_all rfl); k_whole))
  trivial
theorem take_spec {src : Addr} {x y : Int} {tx ty : Tok} {n : Nat} {top : Int} {tt : Tok} {rest : List (Addr × Obj)}
    (B : Below A₀ base outer h₀) (F : Fr h₀ L s.heap m) (X : (pre.heap_1 w.params).In h₀) (N : News h₀ L s.heap ((src, listOf #[.int x tx, .int y ty] n) :: rest)) (T : Top p loose mean mg mb h₀) (hk : cs.kind = .function)
    (hd : dp + 200 < recursionLimit) (hu : un + 8 < cLine) (ht : 0 < top) (ht2 : top < 1073741824) (hy0 : 0 ≤ y) (hy1 : y < 2147483647) (off : ∀ q ∈ rest, q.1 ≠ src)
    (hret : ∀ (d : Int) (t : Tok) (x' y' : Int) (tx' ty' : Tok) (n' : Nat) (h' : Heap) (tk' : Nat), 0 ≤ d → d < top → 0 ≤ y' → y' < 2147483647 → Fr h₀ L h' m → News h₀ L h' ((src, listOf #[.int x' tx', .int y' ty'] n') :: rest) → Q (.int d t) { s with heap := h', toks := tk' }) :
    wpAny (model prog w) (ktrTop dp un gd cn cs L a ccd cl outer) (call (.ref 254) [.ref src, .int top tt]) Q E s := by
  refine wpAny_call ?_
  k_dflt ktr_enter
  k_steps
  · refine hret _ _ _ _ _ _ _ _ _ ?_ ?_ ?_ ?_ (by assumption) (by assumption)
    · exact Int.fmod_nonneg_of_pos _ ht
    · exact Int.fmod_lt_of_pos _ ht
    · exact hy0
    · exact hy1
  · refine hret _ _ _ _ _ _ _ _ _ ?_ ?_ ?_ ?_ (by assumption) (by assumption)
    · exact Int.fmod_nonneg_of_pos _ ht
    · exact Int.fmod_lt_of_pos _ ht
    · exact Int.fmod_nonneg_of_pos _ (by decide)
    · exact Int.fmod_lt_of_pos _ (by decide)

theorem take_specU {src : Addr} {x y : Int} {tx ty : Tok} {n : Nat} {top : Int} {tt : Tok} {g : Obj → List (Addr × Obj)}
    (B : Below A₀ base outer h₀) (F : Fr h₀ L s.heap m) (X : (pre.heap_1 w.params).In h₀) (N : News h₀ L s.heap news) (T : Top p loose mean mg mb h₀) (hk : cs.kind = .function) (U : UpdF src (listOf #[.int x tx, .int y ty] n) news g)
    (hd : dp + 200 < recursionLimit) (hu : un + 8 < cLine) (ht : 0 < top) (ht2 : top < 1073741824) (hy0 : 0 ≤ y) (hy1 : y < 2147483647)
    (hret : ∀ (d : Int) (t : Tok) (x' y' : Int) (tx' ty' : Tok) (n' : Nat) (h' : Heap) (tk' : Nat), 0 ≤ d → d < top → 0 ≤ y' → y' < 2147483647 → Fr h₀ L h' m → News h₀ L h' (g (listOf #[.int x' tx', .int y' ty'] n')) → Q (.int d t) { s with heap := h', toks := tk' }) :
    wpAny (model prog w) (ktrTop dp un gd cn cs L a ccd cl outer) (call (.ref 254) [.ref src, .int top tt]) Q E s := by
  obtain ⟨pre, post, rfl, hg, h1, h2⟩ := U.split
  refine take_spec (x := x) (tx := tx) (ty := ty) (n := n) (rest := pre ++ post) B F X (ledger_sub N ?_) T hk hd hu ht ht2 hy0 hy1 ?_ ?_
  · intro q hq
    rcases List.mem_cons.mp hq with rfl | hq
    · simp
    · rcases List.mem_append.mp hq with hq | hq <;> simp [hq]
  · intro q hq
    rcases List.mem_append.mp hq with hq | hq
    · exact h1 q hq
    · exact h2 q hq
  · intro d t x' y' tx' ty' n' h' tk' a1 a2 a3 a4 F' N'
    refine hret d t x' y' tx' ty' n' h' tk' a1 a2 a3 a4 F' ?_
    rw [hg]
    refine ledger_sub N' ?_
    intro q hq
    rcases List.mem_append.mp hq with hq | hq
    · simp [hq]
    · rcases List.mem_cons.mp hq with rfl | hq <;> simp [hq]
end
end Mine
end

section
open PySem PySem.W PyProof.Rows PySem.Calls
set_option Elab.async false
set_option maxRecDepth 100000
set_option maxHeartbeats 8000000
namespace Mine
theorem lnP2_0 : True := by
  k_with_none
  w_top off
  k_with "pk" => first | exact pk1 | exact pk2 | exact pk3 | exact pk4 | (refine pkS ?_; k_extra "pk")
  k_with "ne" => (refine neN ?_; (try dsimp only); with_reducible first | assumption | exact .symm (by assumption) | exact pk2 (by assumption) | exact pk4 (by assumption) | (refine pkH (by assumption) ?_; k_extra "pk") | (refine pkL (by assumption) ?_; k_extra "pk") | fail)
  k_with "room" => first | exact rmA (by assumption) rfl | exact rmB (by assumption) rfl | exact rmC (by assumption) rfl | fail
  trivial
section
variable {prog : Program} {w : World} {p : Program} {loose : List Str} {mean : ExcName → Option Value} {mg mb : Str → Option Value} {dp un : Nat} {gd : Option (List Code)} {cn : Str} {cs : Scope} {a : Addr} {ccd : Value} {cl : List (Str × Addr)} {outer : List Env} {A₀ : Around} {base h₀ : Heap} {L : Addr} {m : Str → Option Value} {s : Shared} {Q E : Value → Shared → Prop} {news : List (Addr × Obj)}



theorem lnP2_1 : True := by
  k_with "call ref" => (k_here; (with_reducible show wpAny _ _ (call (Value.ref 254) _) _ _ _); (refine' take_specU ?BQ4 ?FQ4 ?XQ4 ?NQ4 ?TQ4 ?kQ4 ?UQ4 ?dQ4 ?uQ4 ?t1Q4 ?t2Q4 ?y0Q4 ?y1Q4 ?_; (case BQ4 => k_asm); (case FQ4 => k_asm); (case XQ4 => k_asm); (case NQ4 => k_asm); (case TQ4 => k_asm); (case kQ4 => first | exact rfl | assumption); (case UQ4 => first | assumption | k_updF); (case dQ4 => ktr_room); (case uQ4 => ktr_units); (case t1Q4 => omega); (case t2Q4 => omega); (case y0Q4 => omega); (case y1Q4 => omega)); intro d' t' x' y' tx' ty' n' h' tk' d0' d1' y0' y1' F' N'; (try dsimp only at N'); (try k_fold); revert d' t' x' y' tx' ty' n' h' tk' d0' d1' y0' y1' F' N'; intro _ _ _ _ _ _ _ _ _ _ _ _ _ _ _)
  k_with "call builtin:len" => (k_here; (with_reducible show wpAny _ _ (call (Value.builtin "len") [Value.ref _]) _ _ _); (refine' call_len_list (News.isList ?NQ5 ?hQ5) ?fQ5 ?_; (case NQ5 => k_asm); (case hQ5 => first | with_reducible assumption | k_mem); (case fQ5 => simp only [List.size_toArray]; omega)); (simp only [List.size_toArray]))
  k_with "subscriptTail Name Call ref int" => (k_here; (with_reducible show wpAny _ _ (subscriptTail _ _ (Value.ref _) (Value.int _ _)) _ _ _); (with_unfolding_all refine' item_written ?k1Q6 ?k2Q6 ?k3Q6 ?k4Q6 ?k5Q6 ?_ ?k6Q6; (case k1Q6 => k_asm); (case k2Q6 => first | apply_assumption | k_mem); (case k3Q6 => omega); (case k4Q6 => omega); (case k5Q6 => exact List.getElem?_eq_getElem (by omega)); (case k6Q6 => with_unfolding_all rfl); k_whole))
  trivial
theorem one_spec {src th : Addr} {x y : Int} {tx ty : Tok} {n nt : Nat} {vs : List Value} {g : Obj → List (Addr × Obj)}
    (B : Below A₀ base outer h₀) (F : Fr h₀ L s.heap m) (X : (pre.heap_1 w.params).In h₀) (N : News h₀ L s.heap news) (T : Top p loose mean mg mb h₀) (hk : cs.kind = .function) (U : UpdF src (listOf #[.int x tx, .int y ty] n) news g)
    (hth : (th, listOf vs.toArray nt) ∈ news) (hth2 : ∀ o', (th, listOf vs.toArray nt) ∈ g o')
    (hd : dp + 210 < recursionLimit) (hu : un + 18 < cLine) (ht : 0 < vs.length) (ht2 : vs.length < 1000) (hy0 : 0 ≤ y) (hy1 : y < 2147483647)
    (hret : ∀ (i : Nat) (hi : i < vs.length) (x' y' : Int) (tx' ty' : Tok) (n' : Nat) (h' : Heap) (tk' : Nat), 0 ≤ y' → y' < 2147483647 → Fr h₀ L h' m → News h₀ L h' (g (listOf #[.int x' tx', .int y' ty'] n')) → Q vs[i] { s with heap := h', toks := tk' }) :
    wpAny (model prog w) (ktrTop dp un gd cn cs L a ccd cl outer) (call (.ref 261) [.ref src, .ref th]) Q E s := by
  refine wpAny_call ?_
  k_dflt ktr_enter
  k_steps
  exact hret _ _ _ _ _ _ _ _ _ (by assumption) (by assumption) (by assumption) (by assumption)
end
end Mine
end

section
open PySem PySem.W PyProof.Rows PySem.Calls
set_option Elab.async false
set_option maxRecDepth 100000
set_option maxHeartbeats 8000000
namespace Mine
theorem lnX1_0 : True := by
  k_with_none
  w_top off
  k_with "pk" => first | exact pk1 | exact pk2 | exact pk3 | exact pk4 | (refine pkS ?_; k_extra "pk")
  k_with "ne" => (refine neN ?_; (try dsimp only); with_reducible first | assumption | exact .symm (by assumption) | exact pk2 (by assumption) | exact pk4 (by assumption) | (refine pkH (by assumption) ?_; k_extra "pk") | (refine pkL (by assumption) ?_; k_extra "pk") | fail)
  k_with "room" => first | exact rmA (by assumption) rfl | exact rmB (by assumption) rfl | exact rmC (by assumption) rfl | fail
  trivial

noncomputable abbrev excO (t : Addr) : Obj := { cls := .ref 51, data := .fields #[.ref t, .none, .none, .none, .bool false, .none] }

theorem tabErr_at {w : World} {h : Heap} (X : (pre.heap_1 w.params).In h) :
    h.get? 51 = some (excClassObj (Str.ofString "TableError") (Str.ofString "TableError") 51 50 [.ref 38] [.ref 38, .type "Exception", .type "BaseException", .type "object"] true [] [] false none none (some (.ref 42)) none (some (.str (Str.ofString "TableError") 225)) (some (.str (Str.ofString "TableError") 233)) (some (.bool true)) "Exception.__new__") := by
  refine X _ _ ?_
  k_is

section
variable {M : Model} {A : Around} {E : Value → Shared → Prop} {h : Heap} {g : Array GenState} {d : Drawn} {t : Nat} {os : OsState}
variable {nm q : Str} {C N : Addr} {bs bm : List Value} {hdct : Bool} {sn : List Str} {sub : List Value} {ab : Bool} {col : Option Bool} {dd : Option Addr} {k0 k1 k2 k3 k5 : Option Value} {B newId initId : String} {bmB : List Value}

theorem exc_check_new (F : ExcBaseFacts B newId initId bmB) (hB : bm.contains (.type B) = true) {rest : List Value} {Q : Unit → Shared → Prop} (hC : h.get? C = some (excClassObj nm q C N bs bm hdct sn sub ab col dd k0 k1 k2 k3 k5 newId))
    (hq : Q () ⟨h, g, d, t, os⟩) : wpAny M A (checkBuiltinCall newId ⟨.ref C :: rest, []⟩) Q E ⟨h, g, d, t, os⟩ := by
  have hcont : (Value.ref C :: bm).contains (.type B) = true := by rw [List.contains_cons, hB, Bool.or_true]
  have hstar := F.noStar
  simp only [checkBuiltinCall, F.newKind, F.newSplit, F.newRow]
  repeat (first | refine wpAny_loadPart_at hC ?_ | (refine wpAny_isSubtype_exc hC ?_; rw [hcont]) | refine wpAny_staticBase_exc hC ?_ | refine wpAny_madeBy_exc hC ?_ | simp only [bne_self_eq_false, Bool.false_eq_true, if_false] | wp_step)
  exact hq

theorem exc_check_init (F : ExcBaseFacts B newId initId bmB) (hB : bm.contains (.type B) = true) {e : Addr} {oe : Obj} {rest : List Value} {Q : Unit → Shared → Prop}
    (hC : h.get? C = some (excClassObj nm q C N bs bm hdct sn sub ab col dd k0 k1 k2 k3 k5 newId)) (he : h.get? e = some oe) (hcls : oe.cls = .ref C) (hq : Q () ⟨h, g, d, t, os⟩) :
    wpAny M A (checkBuiltinCall initId ⟨.ref e :: rest, []⟩) Q E ⟨h, g, d, t, os⟩ := by
  have hcB : (Value.ref C :: bm).contains (.type B) = true := by rw [List.contains_cons, hB, Bool.or_true]
  have hshort := F.noStar
  simp only [checkBuiltinCall, F.initKind, F.initSplit, F.initRow]
  repeat (first | (with_reducible refine wpAny_loadPart_at he ?_; rw [hcls]) | with_reducible refine wpAny_loadPart_at hC ?_ | (with_reducible refine wpAny_isSubtype_exc hC ?_; rw [hcB]) | wp_step)
  refine wpAny_onRaise ?_
  rw [show ∀ (a b : String) (n : Nat), Bind.check ⟨.positional, "*", B, .self, [⟨"args", .varPos, false⟩]⟩ a b n (List.map (fun x => x.fst) ({ pos := Value.ref e :: rest } : Args).kw) = pure () from
    fun a b n => check_star_args _ _ _ _ _ _]
  exact wpAny_pure hq
end
section
variable {prog : Program} {w : World} {A : Around} {R : Result → Shared → Prop} {h : Heap} {g : Array GenState} {d : Drawn} {t : Nat} {os : OsState}
variable {nm q : Str} {C N : Addr} {bs bm : List Value} {hdct : Bool} {sn : List Str} {sub : List Value} {ab : Bool} {col : Option Bool} {dd : Option Addr} {k0 k1 k2 k3 k5 : Option Value} {B newId initId : String} {bmB : List Value}

theorem exc_new (F : ExcBaseFacts B newId initId bmB) (hB : bm.contains (.type B) = true) (hA : bm.contains (.type "AttributeError") = false) (hN : bm.contains (.type "NameError") = false) {rest : List Value} (hC : h.get? C = some (excClassObj nm q C N bs bm hdct sn sub ab col dd k0 k1 k2 k3 k5 newId))
    (hq : R (.ok (.ret (.ref (h.objs.size + 1)))) ⟨(h.push { cls := .type "tuple", data := .seq rest.toArray }).push
      { cls := .ref C, data := .fields #[.ref h.objs.size, .none, .none, .none, .bool false, .none] }, g, d, t, os⟩) (hrest : rest.length ≤ sizeLine := by size_fits) :
    codeAny (model prog w) A (.builtin newId ⟨.ref C :: rest, []⟩) R ⟨h, g, d, t, os⟩ := by
  have hends := F.ends
  have hcB : (Value.ref C :: bm).contains (.type B) = true := by rw [List.contains_cons, hB, Bool.or_true]
  have hcA : (Value.ref C :: bm).contains (.type "AttributeError") = false := by rw [List.contains_cons, hA]; rfl
  have hcN : (Value.ref C :: bm).contains (.type "NameError") = false := by rw [List.contains_cons, hN]; rfl
  refine codeAny_builtinAt F.entry ?_
  unfold Builtin.«BaseException.__new__»
  refine PySem.wpAt_bind ?_
  show PySem.wpAt _ _ _ (stack >>= _) _ _ _
  refine PySem.wpAt_bind (PySem.wpAt_stack fun p below => PySem.wpAt_of_wpAny ?_)
  wp_walk
  refine PySem.wpAt_of_wpAny ?_
  rw [F.owner]
  repeat (first | with_reducible refine wpAny_madeHere_exc F.canon hC ?_ | with_reducible refine wpAny_loadPart_at hC ?_ | (with_reducible refine wpAny_isSubtype_exc hC ?_; first | rw [hcB] | rw [hcA] | rw [hcN]) | wp_step)
  show R _ _
  rw [Heap.size_push]
  exact hq
end

section
variable {prog : Program} {w : World} {A : Around} {E : Value → Shared → Prop} {h : Heap} {g : Array GenState} {d : Drawn} {t : Nat} {os : OsState}
theorem exc_typeCall {v : Value} {Q : Fin → Shared → Prop} (X : (pre.heap_1 w.params).In h)
    (hq : codeAny (model prog w) A (.call (.ref 35) ⟨[.ref (h.objs.size + 1), v], []⟩) (InitBack (h.objs.size + 1) fun r s' => match r with | .ok (.ret v) => Q (.done (.ret v)) s' | .ok _ => False | .error e => E e s') ⟨(h.push { cls := .type "tuple", data := .seq #[v] }).push (excO h.objs.size), g, d, t, os⟩) :
    wpAny (model prog w) A (Builtin.«type.__call__» ⟨[.ref 51, v], []⟩) Q E ⟨h, g, d, t, os⟩ := by
  have hC := tabErr_at X
  have F := F.excBase_Exception
  repeat (first | with_reducible refine wpAny_loadPart_at hC ?_ | with_reducible refine wpAny_madeBy_exc hC ?_ | wp_step)
  refine codeAny_call_builtin_code (Code.quiet_builtin _ F.quiet) (exc_check_new F (by decide) hC ?_)
  refine exc_new F (by decide) (by decide) (by decide) hC ?_ (by simp [sizeLine_eq])
  show wpAny _ _ _ _ _ _
  have hget : ((h.push { cls := .type "tuple", data := .seq [v].toArray }).push (excO h.objs.size)).get? (h.objs.size + 1) = some (excO h.objs.size) := by heap_get
  have hcC : (Value.ref 51 :: [.ref 38, .type "Exception", .type "BaseException", .type "object"]).contains (.ref 51) = true := by simp
  have k : ∀ b o, h.get? b = some o → ((h.push { cls := .type "tuple", data := .seq [v].toArray }).push (excO h.objs.size)).get? b = some o := fun b o e => Heap.get?_push_of_some _ (Heap.get?_push_of_some _ e)
  have hC₁ := k _ _ hC
  have X₁ : (pre.heap_1 w.params).In ((h.push { cls := .type "tuple", data := .seq [v].toArray }).push (excO h.objs.size)) := X.keeps k
  unfold isInstance
  repeat (first | with_reducible refine wpAny_loadPart_at hget ?_ | (with_reducible refine wpAny_isSubtype_exc hC₁ ?_; rw [hcC]) | wp_step)
  show wpAny _ _ (typeLookup (.ref 51) _) _ _ _
  have e1 : findIn (pre.heap_1 w.params) (.ref 51) (Str.ofString "__init__") = some (some (.ref 35)) := by k_is
  have e2 : typeIn (pre.heap_1 w.params) (.ref 35) = some (.type "function") := by k_is
  refine (looks_findIn X₁ e1).here ?_
  refine wpAny_holding (wpAny_bind ((bind_fn X₁ _ e2).here ?_))
  refine wpAny_bind (wpAny_call ?_)
  refine codeAny_mono hq fun r s' z => ?_
  rcases r with e | (_ | _ | _ | v) <;> first | exact z | exact z.elim | skip
  obtain ⟨rfl, z⟩ := z
  exact wpAny_pure (wpAny_pure z)

theorem exc_call {v : Value} {Q : Value → Shared → Prop} (X : (pre.heap_1 w.params).In h)
    (hq : codeAny (model prog w) (A.under (.builtin "type.__call__" ⟨[.ref 51, v], []⟩)) (.call (.ref 35) ⟨[.ref (h.objs.size + 1), v], []⟩) (InitBack (h.objs.size + 1) fun r s' => match r with | .ok (.ret v) => Q v s' | .ok _ => False | .error e => E e s') ⟨(h.push { cls := .type "tuple", data := .seq #[v] }).push (excO h.objs.size), g, d, t, os⟩) :
    wpAny (model prog w) A (call (.ref 51) [v]) Q E ⟨h, g, d, t, os⟩ := by
  have hC := tabErr_at X
  have f1 := tc_lookup
  have f2 := tc_bind (.ref 51)
  have hT : (⟨h, g, d, t, os⟩ : Shared).TypeIs (.ref 51) "type" := ⟨_, hC, rfl⟩
  refine wpAny_call (codeAny_of_tree ?_)
  show wpAny _ _ (callAny (.ref 51) _) _ _ _
  repeat (any_goals (first | assumption | with_reducible refine wpAny_loadPart_at hC ?_ | wp_step))
  refine ⟨rfl, ?_⟩
  refine codeAny_call_builtin_at (Code.quiet_builtin _ (by decide +kernel)) entry_typeCall (wpAny_check_type_call_sub hC (exc_typeCall X ?_))
  refine codeAny_mono hq fun r s' z => ?_
  rcases r with e | (_ | _ | _ | v) <;> first | exact z | exact z.elim | skip
end
end Mine
end

section
open PySem PySem.W PyProof.Rows PySem.Calls
set_option Elab.async false
set_option maxRecDepth 100000
set_option maxHeartbeats 8000000
namespace Mine
theorem lnX2_0 : True := by
  k_with_none
  w_top off
  k_with "pk" => first | exact pk1 | exact pk2 | exact pk3 | exact pk4 | (refine pkS ?_; k_extra "pk")
  k_with "ne" => (refine neN ?_; (try dsimp only); with_reducible first | assumption | exact .symm (by assumption) | exact pk2 (by assumption) | exact pk4 (by assumption) | (refine pkH (by assumption) ?_; k_extra "pk") | (refine pkL (by assumption) ?_; k_extra "pk") | fail)
  k_with "room" => first | exact rmA (by assumption) rfl | exact rmB (by assumption) rfl | exact rmC (by assumption) rfl | fail
  trivial
section
variable {prog : Program} {w : World} {p : Program} {loose : List Str} {mean : ExcName → Option Value} {mg mb : Str → Option Value} {dp un : Nat} {gd : Option (List Code)} {cn : Str} {cs : Scope} {a : Addr} {ccd : Value} {cl : List (Str × Addr)} {outer : List Env} {A₀ : Around} {base h₀ : Heap} {L : Addr} {m : Str → Option Value} {s : Shared} {Q E : Value → Shared → Prop} {news : List (Addr × Obj)}

theorem exc_meta : typeOf (.type "Exception") = pure (.type "type") := by kernel_rfl
theorem exc_init {e t0 : Addr} {v : Value} (F : Fr h₀ L s.heap m) (X : (pre.heap_1 w.params).In h₀) (N : News h₀ L s.heap ((e, excO t0) :: news)) (off : ∀ q ∈ news, q.1 ≠ e) {A : Around}
    (hret : ∀ h' t1, Fr h₀ L h' m → News h₀ L h' ((e, excO t1) :: (t1, { cls := .type "tuple", data := .seq #[v] }) :: news) → (∀ q ∈ news, q.1 < t1) → e < t1 → Q .none { s with heap := h' }) :
    wpAny (model prog w) A (call (.builtin "Exception.__init__") [.ref e, v]) Q E s := by
  obtain ⟨h, g, d, tk, os⟩ := s
  have F1 := PySem.F.excBase_Exception
  have X₁ := X.keeps F.keep
  have hC := tabErr_at X₁
  have he := (N (e, excO t0) (.head _)).1
  refine wpAny_call (codeAny_call_builtin F1.init.plain F1.initEntry (exc_check_init F1 (by decide) hC he rfl ?_))
  wp_walk
  have N1 := N.push F { cls := .type "tuple", data := .seq #[v] }
  have F2 := F.push { cls := .type "tuple", data := .seq #[v] }
  have hlt : e < h.objs.size := Heap.lt_size he
  obtain ⟨U1, U2⟩ := news_upd (pre := [(h.objs.size, { cls := .type "tuple", data := .seq #[v] })]) (post := news) (d := e) (o := excO t0) (o' := excO h.objs.size) (f := Obj.mapFields fun x => x.setIfInBounds 0 (Value.ref h.objs.size)) F2 N1 (by intro q hq; rw [List.mem_singleton.mp hq]; exact Nat.ne_of_gt hlt) off rfl rfl
  exact hret _ h.objs.size U1 (ledger_swap U2) (fun q hq => Heap.lt_size (N q (.tail _ hq)).1) hlt

theorem exc_refuse (self : Value) : refuseLoop self "__setattr__" [.ref 51, .ref 38, .type "Exception", .type "BaseException", .type "object"] = pure () := by
  rw [refuseLoop_ref, refuseLoop_ref]
  kernel_rfl

noncomputable abbrev excOd (t d1 : Addr) : Obj := { cls := .ref 51, dict := some d1, data := .fields #[.ref t, .none, .none, .none, .bool false, .none] }

theorem exc_store {e t1 : Addr} {v : Value} (F : Fr h₀ L s.heap m) (X : (pre.heap_1 w.params).In h₀) (N : News h₀ L s.heap ((e, excO t1) :: news)) (off : ∀ q ∈ news, q.1 ≠ e) {A : Around} {Q : Unit → Shared → Prop}
    (hret : ∀ h' tk d1 od, Fr h₀ L h' m → News h₀ L h' ((e, excOd t1 d1) :: (d1, od) :: news) → (∀ q ∈ news, q.1 < d1) → e < d1 → Q () { s with heap := h', toks := tk }) :
    wpAny (model prog w) A (setAttr (.ref e) (Str.ofString "message") v) Q E s := by
  obtain ⟨hp, g, d, tk, os⟩ := s
  dsimp only at F N hret
  have X₁ := X.keeps F.keep
  have he : hp.get? e = some (excO t1) := (N (e, excO t1) (.head _)).1
  have I : InstAt hp e (excO t1) 51 none := ⟨he, rfl, rfl, trivial⟩
  have e1 : findIn (pre.heap_1 w.params) (.ref 51) "__setattr__" = some (some (.builtin "object.__setattr__")) := by k_is
  refine set_plain (s := ⟨hp, g, d, tk, os⟩) X₁ I e1 ?_
  have SF := PySem.F.store_object
  have e2 : subIn (pre.heap_1 w.params) (.ref 51) (.type "object") = some true := by k_is
  have e3 : findIn (pre.heap_1 w.params) (.ref 51) (Str.ofString "message") = some none := by k_is
  have e4 : clsIn (pre.heap_1 w.params) 51 = some { name := Str.ofString "TableError", bases := [Value.ref 38], mro := [Value.ref 51, Value.ref 38, Value.type "Exception", Value.type "BaseException", Value.type "object"], ns := 50, qualname := Str.ofString "TableError" } := by k_is
  have sub : Looks (model prog w) hp (isInstance (.ref e) (.type "object")) true := I.type.andThen (looks_subIn X₁ e2)
  refine codeAny_call_builtin SF.slot.plain SF.entry (@check_slot (model prog w) _ _ ⟨hp, g, d, tk + 1, os⟩ "object.__setattr__" "object" "__setattr__" (.ref e) [.str (Str.ofString "message") tk, v] [] _ SF.kind SF.split sub (SF.args (.ref e) (.str (Str.ofString "message") tk) v) ?_)
  have hm : Looks (model prog w) hp (mroOf (.ref 51)) [Value.ref 51, Value.ref 38, Value.type "Exception", Value.type "BaseException", Value.type "object"] := (looks_clsIn X₁ e4).andThen .now
  rw [osa_eq, refuse_eq]
  refine wpAny_bind (wpAny_bind (I.type.at (wpAny_bind (hm.at ?_))))
  rw [exc_refuse]
  refine wpAny_pure (wpAny_bind (I.type.at (wpAny_bind ((looks_findIn X₁ e3).at (wpAny_bind (wpAny_pure ?_))))))
  refine wpAny_bind (wpAny_pure (wpAny_bind (wpAny_bind (wpAny_loadPart he (wpAny_bind ((looks_clsIn X₁ e4).at ?_))))))
  show wpAny _ _ (alloc { cls := Value.type "dict", data := Data.dict #[] } >>= fun d => update e (fun o => { cls := o.cls, dict := some d, data := o.data, slots := o.slots }) >>= fun _ => dictMade (.ref 51) e d) _ _ _
  have N1 := N.push F emptyDict
  have F1 := F.push emptyDict
  have hlt : e < hp.objs.size := Heap.lt_size he
  obtain ⟨U1, U2⟩ := news_upd (pre := [(hp.objs.size, emptyDict)]) (post := news) (d := e) (o := excO t1) (o' := excOd t1 hp.objs.size) (f := fun o => { cls := o.cls, dict := some hp.objs.size, data := o.data, slots := o.slots }) F1 N1 (by intro q hq; rw [List.mem_singleton.mp hq]; exact Nat.ne_of_gt hlt) off rfl rfl
  refine wpAny_bind (wpAny_alloc (wpAny_bind (wpAny_update (Heap.get?_push_of_some _ he) ?_)))
  refine wpAny_pure ?_
  have D := (U2 (hp.objs.size, emptyDict) (by simp)).1
  show wpAny _ _ (Builtin.ObjectAttr.storeInDict hp.objs.size _ _ _) _ _ _
  refine wpAny_bind (wpAny_pure ?_)
  unfold nsSet
  refine wpAny_bind (wpAny_bind (wpAny_bind (wpAny_askSetting (wpAny_pure (wpAny_bind (wpAny_mkText (wpAny_bind (wpAny_loadPart D ?_))))))))
  generalize hH : (hp.push { cls := Value.type "dict", data := Data.dict #[] }).update e (fun o => { cls := o.cls, dict := some hp.objs.size, data := o.data, slots := o.slots }) = H at *
  generalize hD : hp.objs.size = d1 at *
  show wpAny _ _ (updatePart d1 _ (Obj.putName (Str.ofString "message") _ _ v)) _ _ _
  refine wpAny_updatePart D ?_
  have off1 : ∀ q ∈ (e, excOd t1 d1) :: news, q.1 ≠ d1 := by
    intro q hq
    rcases List.mem_cons.mp hq with rfl | hq
    · exact Nat.ne_of_lt hlt
    · exact Nat.ne_of_lt (hD ▸ Heap.lt_size (N q (.tail _ hq)).1)
  obtain ⟨V1, V2⟩ := news_upd (pre := []) (post := (e, excOd t1 d1) :: news) (d := d1) (o := emptyDict) (f := Obj.putName (Str.ofString "message") _ _ v) U1 U2 (fun _ h => (nomatch h)) off1 (putName_dict _ _ _ _ [] 0) rfl
  refine wpAny_bind (wpAny_lookBehind (V2 (d1, _) (.head _)).1 (pastItsLine_dict (by rw [List.size_toArray, sizeLine_eq]; simp only [putL, List.length_cons, List.length_nil]; decide)) ?_)
  exact wpAny_pure (hret _ _ d1 _ V1 (ledger_swap V2) (fun q hq => hD ▸ Heap.lt_size (N q (.tail _ hq)).1) hlt)


theorem lnX2_1 : True := by
  k_with "getMethod type:Exception" => (k_here; refine' method_type ?FQ7 ?XQ7 ?mQ7 (by decide +kernel) ?eQ7 ?hQ7 ?_; (case FQ7 => k_asm); (case XQ7 => k_asm); (case mQ7 => exact exc_meta); (case eQ7 => k_dflt k_is); (case hQ7 => k_handed))
  k_with "call builtin:Exception.__init__" => (k_here; (refine' exc_init ?FQ8 ?XQ8 ?NQ8 ?oQ8 ?_; (case FQ8 => k_asm); (case XQ8 => k_asm); (case NQ8 => k_asm); (case oQ8 => assumption)); intro h' t1' F' N' l1 l2; revert h' t1' F' N' l1 l2; intro _ _ _ _ _ _)
  trivial
theorem exc_make {x : Str} {t : Tok}
    (B : Below A₀ base outer h₀) (F : Fr h₀ L s.heap m) (X : (pre.heap_1 w.params).In h₀) (N : News h₀ L s.heap news) (T : Top p loose mean mg mb h₀) (hk : cs.kind = .function)
    (hd : dp + 10 < recursionLimit) (hu : un + 18 < cLine)
    (hret : ∀ h' tk' e t1 d1, Fr h₀ L h' m → News h₀ L h' ((e, excOd t1 d1) :: (t1, { cls := .type "tuple", data := .seq #[.str x t] }) :: news) → (∀ q ∈ news, q.1 ≠ e) → (∀ q ∈ news, q.1 ≠ t1) → t1 ≠ e → Q (.ref e) { s with heap := h', toks := tk' }) :
    wpAny (model prog w) (ktrTop dp un gd cn cs L a ccd cl outer) (call (.ref 51) [.str x t]) Q E s := by
  obtain ⟨hp, g, d, tk, os⟩ := s
  refine exc_call (X.keeps F.keep) ?_
  have N1 := N.push F { cls := .type "tuple", data := .seq #[.str x t] }
  have F1 := F.push { cls := .type "tuple", data := .seq #[.str x t] }
  have N2 := N1.push F1 (excO hp.objs.size)
  have F2 := F1.push (excO hp.objs.size)
  rw [Heap.size_push] at N2
  have l1 : hp.objs.size < hp.objs.size + 1 := Nat.lt_succ_self _
  have l0 : ∀ q ∈ news, q.1 < hp.objs.size := fun q hq => Heap.lt_size (N q hq).1
  generalize hp.objs.size + 1 = e at *
  generalize hp.objs.size = t0 at *
  generalize (hp.push { cls := .type "tuple", data := .seq #[.str x t] }).push (excO t0) = h2 at *
  clear N F N1 F1
  have off0 : ∀ q ∈ (t0, ({ cls := .type "tuple", data := .seq #[.str x t] } : Obj)) :: news, q.1 ≠ e := by
    intro q hq
    rcases List.mem_cons.mp hq with rfl | hq
    · exact Nat.ne_of_lt l1
    · exact Nat.ne_of_lt (Nat.lt_trans (l0 q hq) l1)
  k_dflt ktr_enter
  repeat' (first | (k_unfold; (try dsimp only)) | walk1 | (dsimp only; walk1))
  rename (e < _) => l2'
  rename (∀ q ∈ (t0, ({ cls := .type "tuple", data := .seq #[.str x t] } : Obj)) :: news, q.1 < _) => l1'
  refine exc_store (by assumption) (by assumption) (by assumption) ?_ ?_
  · intro q hq
    rcases List.mem_cons.mp hq with rfl | hq
    · exact Nat.ne_of_gt l2'
    · exact off0 q hq
  · intro h3 tk3 d1 od F3 N3 l3 l4
    k_steps
    refine hret h3 tk3 e _ d1 (by assumption) (ledger_sub (by assumption) ?_) (fun q hq => off0 q (.tail _ hq)) (fun q hq => Nat.ne_of_lt (l1' q (.tail _ hq))) (Nat.ne_of_gt l2')
    intro q hq
    rcases List.mem_cons.mp hq with rfl | hq
    · exact .head _
    · rcases List.mem_cons.mp hq with rfl | hq
      · exact .tail _ (.tail _ (.head _))
      · exact .tail _ (.tail _ (.tail _ (.tail _ hq)))

noncomputable def RaisableX (w : World) (E : Value → Shared → Prop) (v : Value) (s₁ : Shared) : Prop :=
  ∃ a ob vs, v = .ref a ∧ s₁.heap.get? a = some ob ∧ ob.cls = .ref 51 ∧ ob.data = .fields vs ∧ vs[1]? = some .none ∧ (pre.heap_1 w.params).In s₁.heap ∧ E (.ref a) s₁

theorem raise_own {A : Around} {env : Env} {e : PySem.Expr} {pos : Pos} {Q : Flow → Shared → Prop} (hh : A.handled = none)
    (h : wpAny (model prog w) A (eval e env) (RaisableX w E) E s) : wpAny (model prog w) A (exec (.Raise (some e) none pos) env) Q E s := by
  show wpAny (model prog w) A (do standAt pos; raiseStmt env (some (do let v ← eval e env; standAt pos; pure v)) none) Q E s
  refine wpAny_bind (wpAny_standAt ?_)
  unfold raiseStmt
  dsimp only
  refine wpAny_bind (wpAny_bind (wpAny_mono h (fun v s₁ h₁ => wpAny_bind (wpAny_standAt (wpAny_pure ?_))) fun _ _ x => x))
  obtain ⟨a, ob, vs, rfl, ha, hcls, hd', h1, X, hE⟩ := h₁
  have e1 : subIn (pre.heap_1 w.params) (.ref 51) (.type "BaseException") = some true := by k_is
  have e2 : typeIn (pre.heap_1 w.params) (.ref 51) = some (.type "type") := by k_is
  have hT : Looks (model prog w) s₁.heap (typeOf (.ref a)) (.ref 51) := by rw [← hcls]; exact (Looks.ld ha).andThen .now
  have hnt : ∀ {Q' : Bool → Shared → Prop}, Q' false s₁ → wpAny (model prog w) A (isType (.ref a)) Q' E s₁ := by
    intro Q' hq
    simp only [isType, loadHead]
    refine wpAny_bind (wpAny_loadPart ha ?_)
    rw [hd']; exact wpAny_pure hq
  refine wpAny_bind (wpAny_pure ?_)
  dsimp only
  refine wpAny_bind (wpAny_holding ?_)
  unfold excFromValue isExcClass
  refine wpAny_bind (wpAny_bind (hnt ?_))
  simp only [Bool.false_eq_true, if_false]
  refine wpAny_pure ?_
  simp only [Bool.false_eq_true, if_false]
  refine wpAny_bind ?_
  unfold isInstance
  refine wpAny_bind (hT.here ((looks_subIn X e1).here ?_))
  simp only [if_true]
  refine wpAny_pure ?_
  refine wpAny_bind (hnt ?_)
  simp only [Bool.false_eq_true, if_false]
  unfold raisedInstance
  refine wpAny_bind (wpAny_bind (hT.here (wpAny_bind ((looks_typeIn X e2).here ?_))))
  rw [if_pos (by decide)]
  refine wpAny_pure ?_
  unfold setFlight raiseNew
  refine wpAny_bind (wpAny_bind (wpAny_field ha hd' h1 ?_))
  rw [if_neg (by decide)]
  refine wpAny_pure (wpAny_bind (wpAny_handled ?_))
  rw [hh]
  first
    | exact wpAny_throw hE
    | exact wpAny_bind (wpAny_pure (wpAny_throw hE))

theorem leave_raiseX {M : Model} {A : Around} {s' : Shared} {g : Heap} {e t d1 : Addr} {vs : List Value} {name : Str} {scope : Scope} {cd : Value} {Q : Unit → Shared → Prop}
    (B : Below A base outer g) (F : Fr g L s'.heap m) (N : News g L s'.heap ((e, excOd t d1) :: (t, { cls := .type "tuple", data := .seq vs.toArray }) :: news))
    (o1 : ∀ q ∈ news, q.1 ≠ e) (o2 : ∀ q ∈ news, q.1 ≠ t) (o3 : t ≠ e)
    (hQ : ∀ h', RaisedK base outer e (.ref 51) t vs news h' → g.UpToSlots h' → Q () { s' with heap := h' }) (hk : scope.kind = .function := by rfl) :
    wpAny M (A.deeper (envOf name scope L a cd)) (leaving (envOf name scope L a cd) (.ref e)) Q E s' := by
  have K' := B.push (name := name) (a := a) (cd := cd) F hk
  have Ne := N (e, _) (.head _)
  have Nt := N (t, _) (.tail _ (.head _))
  have be : base.get? e = none := fresh_of_stays B.stays Ne.2.2
  have bt : base.get? t = none := fresh_of_stays B.stays Nt.2.2
  generalize has : e :: t :: (envOf name scope L a cd :: outer).filterMap (·.frame) = as
  have hin : ∀ env ∈ (envOf name scope L a cd :: outer), ∀ b, env.frame = some b → b ∈ as := fun env he b hb => has ▸ .tail _ (.tail _ (List.mem_filterMap.mpr ⟨env, he, hb⟩))
  have out : ∀ b, b ≠ e → b ≠ t → (b ∈ as) → b ∈ (envOf name scope L a cd :: outer).filterMap (·.frame) := by
    intro b h1 h2 hb
    rw [← has] at hb
    rcases List.mem_cons.mp hb with rfl | hb
    · exact absurd rfl h1
    · rcases List.mem_cons.mp hb with rfl | hb
      · exact absurd rfl h2
      · exact hb
  have st : base.StaysIn (hideAll s'.heap as) := fun b o q => hideAll_get _ (K'.stays b o q) fun hm => by
    have q1 : b ≠ e := fun z => by rw [z, be] at q; cases q
    have q2 : b ≠ t := fun z => by rw [z, bt] at q; cases q
    rw [(K'.frames.mem (out b q1 q2 hm)).1] at q; cases q
  have hl : ∀ q ∈ news, (hideAll s'.heap as).get? q.1 = some q.2 ∧ base.get? q.1 = none := fun q hq => by
    have Nq := N q (.tail _ (.tail _ hq))
    refine ⟨hideAll_get _ Nq.1 fun hm => ?_, fresh_of_stays B.stays Nq.2.2⟩
    obtain ⟨env, he, hf⟩ := List.mem_filterMap.mp (out _ (o1 q hq) (o2 q hq) hm)
    rcases List.mem_cons.mp he with rfl | he
    · exact Nq.2.1 (Option.some.inj hf).symm
    · obtain ⟨o, ho, _⟩ := (B.frames.mem (List.mem_filterMap.mpr ⟨env, he, hf⟩)).2
      rw [Nq.2.2] at ho; cases ho
  refine wpAny_leaving_firstW (a0 := .ref t) K'.stack (funFrames_hide K'.frames hin) rfl Ne.1 (fun b o q => of_hideAll _ q) (hideAll_none _ (has ▸ .head _)) rfl rfl rfl fun h' hL => ?_
  obtain ⟨k1, ⟨_, _, k2⟩, k3, k4⟩ := hL
  exact hQ h' ⟨⟨_, st, hl, ⟨k1, hideAll_none _ (has ▸ .head _), k2, k3⟩, hideAll_none _ (has ▸ .tail _ (.head _))⟩, Heap.TupAt.of_slots ⟨_, _, Nt.1, rfl, rfl⟩ k4⟩ ((Heap.UpToSlots.of_keeps F.keep).trans k4)
end
end Mine
end

section
open PySem PySem.W PyProof.Rows PySem.Calls
set_option Elab.async false
set_option maxRecDepth 100000
set_option maxHeartbeats 8000000
namespace Mine
theorem lnX3_0 : True := by
  k_with_none
  w_top off
  k_with "pk" => first | exact pk1 | exact pk2 | exact pk3 | exact pk4 | (refine pkS ?_; k_extra "pk")
  k_with "ne" => (refine neN ?_; (try dsimp only); with_reducible first | assumption | exact .symm (by assumption) | exact pk2 (by assumption) | exact pk4 (by assumption) | (refine pkH (by assumption) ?_; k_extra "pk") | (refine pkL (by assumption) ?_; k_extra "pk") | fail)
  k_with "room" => first | exact rmA (by assumption) rfl | exact rmB (by assumption) rfl | exact rmC (by assumption) rfl | fail
  trivial
section
variable {A A₀ : Around} {E : Value → Shared → Prop} {outer : List Env} {base g G : Heap} {L a : Addr} {m : Str → Option Value} {news : List (Addr × Obj)}
theorem leave_raiseZ {M : Model} {s' : Shared} {e t d1 : Addr} {vs : List Value} {name : Str} {scope : Scope} {cd : Value} {Q : Unit → Shared → Prop}
    (B : Below A base outer g) (F : Fr g L s'.heap m) (N : News g L s'.heap ((e, excOd t d1) :: (t, { cls := .type "tuple", data := .seq vs.toArray }) :: news))
    (o1 : ∀ q ∈ news, q.1 ≠ e) (o2 : ∀ q ∈ news, q.1 ≠ t) (o3 : t ≠ e)
    (hQ : ∀ h', RaisedS base g outer e (.ref 51) t vs news h' → g.UpToSlots h' → Q () { s' with heap := h' }) (hk : scope.kind = .function := by rfl) :
    wpAny M (A.deeper (envOf name scope L a cd)) (leaving (envOf name scope L a cd) (.ref e)) Q E s' := by
  have K' := B.push (name := name) (a := a) (cd := cd) F hk
  have Ne := N (e, _) (.head _)
  have Nt := N (t, _) (.tail _ (.head _))
  have be : base.get? e = none := fresh_of_stays B.stays Ne.2.2
  have bt : base.get? t = none := fresh_of_stays B.stays Nt.2.2
  generalize has : e :: t :: (envOf name scope L a cd :: outer).filterMap (·.frame) = as
  have hin : ∀ env ∈ (envOf name scope L a cd :: outer), ∀ b, env.frame = some b → b ∈ as := fun env he b hb => has ▸ .tail _ (.tail _ (List.mem_filterMap.mpr ⟨env, he, hb⟩))
  have out : ∀ b, b ≠ e → b ≠ t → (b ∈ as) → b ∈ (envOf name scope L a cd :: outer).filterMap (·.frame) := by
    intro b h1 h2 hb
    rw [← has] at hb
    rcases List.mem_cons.mp hb with rfl | hb
    · exact absurd rfl h1
    · rcases List.mem_cons.mp hb with rfl | hb
      · exact absurd rfl h2
      · exact hb
  have st : base.StaysIn (hideAll s'.heap as) := fun b o q => hideAll_get _ (K'.stays b o q) fun hm => by
    have q1 : b ≠ e := fun z => by rw [z, be] at q; cases q
    have q2 : b ≠ t := fun z => by rw [z, bt] at q; cases q
    rw [(K'.frames.mem (out b q1 q2 hm)).1] at q; cases q
  have sg : ∀ b o, g.get? b = some o → b ∉ outer.filterMap (·.frame) → (hideAll s'.heap as).get? b = some o := fun b o q nm => hideAll_get _ (F.keep b o q) fun hm => by
    have q1 : b ≠ e := fun z => by rw [z, Ne.2.2] at q; cases q
    have q2 : b ≠ t := fun z => by rw [z, Nt.2.2] at q; cases q
    rcases kts_mem (out b q1 q2 hm) with z | z
    · rw [z, kts_self F] at q; cases q
    · exact nm z
  have hl : ∀ q ∈ news, (hideAll s'.heap as).get? q.1 = some q.2 ∧ g.get? q.1 = none ∧ base.get? q.1 = none := fun q hq => by
    have Nq := N q (.tail _ (.tail _ hq))
    refine ⟨hideAll_get _ Nq.1 fun hm => ?_, Nq.2.2, fresh_of_stays B.stays Nq.2.2⟩
    obtain ⟨env, he, hf⟩ := List.mem_filterMap.mp (out _ (o1 q hq) (o2 q hq) hm)
    rcases List.mem_cons.mp he with rfl | he
    · exact Nq.2.1 (Option.some.inj hf).symm
    · obtain ⟨o, ho, _⟩ := (B.frames.mem (List.mem_filterMap.mpr ⟨env, he, hf⟩)).2
      rw [Nq.2.2] at ho; cases ho
  refine wpAny_leaving_firstW (a0 := .ref t) K'.stack (funFrames_hide K'.frames hin) rfl Ne.1 (fun b o q => of_hideAll _ q) (hideAll_none _ (has ▸ .head _)) rfl rfl rfl fun h' hL => ?_
  obtain ⟨k1, ⟨_, _, k2⟩, k3, k4⟩ := hL
  exact hQ h' ⟨⟨_, st, sg, hl, ⟨k1, hideAll_none _ (has ▸ .head _), k2, k3⟩, hideAll_none _ (has ▸ .tail _ (.head _))⟩, Heap.TupAt.of_slots ⟨_, _, Nt.1, rfl, rfl⟩ k4⟩ ((Heap.UpToSlots.of_keeps F.keep).trans k4)
end
end Mine
end

section
open PySem PySem.W PyProof.Rows PySem.Calls PyProof.Rows.LCg PyProof.Rows.LCt
set_option Elab.async false
set_option maxRecDepth 100000
set_option maxHeartbeats 8000000
namespace Mine
theorem lnL0_0 : True := by
  k_with_none
  w_top off
  k_with "pk" => first | exact pk1 | exact pk2 | exact pk3 | exact pk4 | (refine pkS ?_; k_extra "pk")
  k_with "ne" => (refine neN ?_; (try dsimp only); with_reducible first | assumption | exact .symm (by assumption) | exact pk2 (by assumption) | exact pk4 (by assumption) | (refine pkH (by assumption) ?_; k_extra "pk") | (refine pkL (by assumption) ?_; k_extra "pk") | fail)
  k_with "room" => first | exact rmA (by assumption) rfl | exact rmB (by assumption) rfl | exact rmC (by assumption) rfl | fail
  trivial
section
variable {prog : Program} {w : World} {A : Around} {E : Value → Shared → Prop} {s : Shared} {h₀ : Heap} {L : Addr} {m : Str → Option Value} {env : Env} {K : Type} [DecidableEq K] {knd : KeyKind prog w K}

theorem dict_st {d I : Addr} {o : Obj} {kvs : List (K × Value)} {ep : Nat} (hat : KdkAt knd o kvs ep) : ∀ i (h h' : Heap) (oI : Obj) (nw : List (Addr × Obj)), (h.IsKeyIter I d i kvs.length ep ∧ h.DictAt knd d kvs ep) → h.get? I = some oI → h'.get? I = some oI → (∀ b o, h₀.get? b = some o → h'.get? b = some o) → News h₀ L h' nw → (d, o) ∈ nw → (h'.IsKeyIter I d i kvs.length ep ∧ h'.DictAt knd d kvs ep) :=
  fun i h h' oI nw st e e' _ N hm => ⟨by obtain ⟨o', q, r⟩ := st.1; rw [e] at q; cases q; exact ⟨oI, e', r⟩, hat.dictAt (N _ hm).1⟩

noncomputable def DSrcT (knd : KeyKind prog w K) (A : Around) (h₀ : Heap) (L : Addr) (m : Str → Option Value) (env : Env) (ct elt : PySem.Expr) (x : Str) (scope : Scope) (cl : List (Str × Addr)) (Fin : Shared → List Value → List (Addr × Obj) → Prop) (xv : Value) (s₁ : Shared) : Prop :=
  ∃ d o news kvs, xv = .ref d ∧ A.handled = none ∧ Fr h₀ L s₁.heap m ∧ News h₀ L s₁.heap news ∧ (d, o) ∈ news ∧ Obj.IsDictOf knd o kvs ∧ (d == sysModules) = false ∧ kvs.length ≤ sizeLine ∧
    ∀ s₂ : Shared, (∃ h, s₂ = { s₁ with heap := h }) → CompRestT prog w A h₀ L m env ct elt x scope cl s₂ (fun nw => (d, o) ∈ nw) (fun i v => ∃ k x, kvs[i]? = some (k, x) ∧ knd.is k v = true) (Fin s₂) kvs.length 0 [] news
noncomputable def DSrcU (knd : KeyKind prog w K) (A : Around) (h₀ : Heap) (L : Addr) (m : Str → Option Value) (env : Env) (elt : PySem.Expr) (x : Str) (scope : Scope) (cl : List (Str × Addr)) (Fin : Shared → List Value → List (Addr × Obj) → Prop) (xv : Value) (s₁ : Shared) : Prop :=
  ∃ d o news kvs, xv = .ref d ∧ A.handled = none ∧ Fr h₀ L s₁.heap m ∧ News h₀ L s₁.heap news ∧ (d, o) ∈ news ∧ Obj.IsDictOf knd o kvs ∧ (d == sysModules) = false ∧ kvs.length ≤ sizeLine ∧
    ∀ s₂ : Shared, (∃ h, s₂ = { s₁ with heap := h }) → CompRest prog w A h₀ L m env elt x scope cl s₂ (fun nw => (d, o) ∈ nw) (fun i v => ∃ k x, kvs[i]? = some (k, x) ∧ knd.is k v = true) (Fin s₂) kvs.length 0 [] news

theorem comp_dT {ct elt iter : PySem.Expr} {x : Str} {px : Pos} {scope : Scope} {cl : List (Str × Addr)} {pos : Pos} {Q : Value → Shared → Prop} (knd : KeyKind prog w K) (_F₀ : Fr h₀ L s.heap m)
    (hclos : closureFor scope env = pure cl) (hcell : ∀ y ∈ scope.names, y.2 ≠ .cell) (hkind : scope.kind = .function)
    (hnames : ∀ y ∈ scope.names, y.2 = .local → scope.names.lookup y.1 = some .local) (hx : scope.names.lookup x = some .local)
    (h : wpAny (model prog w) A (eval iter env) (DSrcT knd A h₀ L m env ct elt x scope cl (fun s₂ => FinE h₀ L m s₂ Q)) E s)
    (hs : ∀ x, foldedSetIterable iter env x = pure x := by intro _; rfl) :
    wpAny (model prog w) A (eval (.ListComp elt [⟨.Name x px, iter, [ct], 0⟩] scope pos) env) Q E s := by
  rw [eval_ListComp]
  refine wpAny_comprehension_free (use := none) rfl hs hclos hkind hnames (wpAny_mono h (fun xv s₁ h₁ => ?_) fun _ _ e => e)
  obtain ⟨d, o, news, kvs, rfl, hh, F, N, hm, hd, lo, hsz, R⟩ := h₁
  obtain ⟨ep, hat⟩ := KdkAt.of hd
  have hD := hat.dictAt (N _ hm).1
  have hlt : d < s₁.heap.objs.size := Heap.lt_size (N _ hm).1
  refine wpAny_pyIter_dict lo hD ?_
  have up : ∀ b o, s₁.heap.get? b = some o → (s₁.heap.push { cls := .type "dict_keyiterator", data := .fields #[.ref d, .int 0 0, .int kvs.length 0, .int ep 0] }).get? b = some o := fun b o e => Heap.get?_push_of_some _ e
  refine block_T (Walks.dictKeys (knd := knd) hh s₁.heap.objs.size d (Nat.ne_of_lt hlt) kvs ep) hsz (fun i h st => by obtain ⟨o, e, _⟩ := st.1; exact ⟨o, e⟩) (dict_st hat) hcell hkind hx ⟨⟨_, Heap.get?_push_size _ rfl, rfl, rfl⟩, hD.push _⟩ (fun b hb => ?_)
    (F.keeps up) (N.grown up) (Nat.ne_of_lt F.ns.lt) (next_is_new F) (fun p hp => Nat.ne_of_lt (Heap.lt_size (N p hp).1)) hm (R _ ⟨_, rfl⟩) ?_
  · show b < (s₁.heap.push _).objs.size
    rw [Heap.size_push]
    rcases List.mem_cons.mp hb with rfl | hb
    · exact Nat.lt_succ_self _
    · rw [List.mem_singleton.mp hb]; exact Nat.lt_succ_of_lt hlt
  · intro D C h tk m' ys news' F' N' o1 hn hC₀ hD₀ hCL hDL hCD offC fin
    refine ⟨m', hn, fun h'' hs'' => fin D h'' tk (F'.change hs'' hCL hC₀) (fun p hp => ?_) o1⟩
    refine ⟨hs''.extBut _ _ ?_ (N' p hp).1, (N' p hp).2⟩
    rcases List.mem_cons.mp hp with rfl | hp
    · exact Ne.symm hCD
    · exact offC p hp

theorem comp_dU {elt iter : PySem.Expr} {x : Str} {px : Pos} {scope : Scope} {cl : List (Str × Addr)} {pos : Pos} {Q : Value → Shared → Prop} (knd : KeyKind prog w K) (_F₀ : Fr h₀ L s.heap m)
    (hclos : closureFor scope env = pure cl) (hcell : ∀ y ∈ scope.names, y.2 ≠ .cell) (hkind : scope.kind = .function)
    (hnames : ∀ y ∈ scope.names, y.2 = .local → scope.names.lookup y.1 = some .local) (hx : scope.names.lookup x = some .local)
    (h : wpAny (model prog w) A (eval iter env) (DSrcU knd A h₀ L m env elt x scope cl (fun s₂ => FinE h₀ L m s₂ Q)) E s)
    (hs : ∀ x, foldedSetIterable iter env x = pure x := by intro _; rfl) :
    wpAny (model prog w) A (eval (.ListComp elt [⟨.Name x px, iter, [], 0⟩] scope pos) env) Q E s := by
  rw [eval_ListComp]
  refine wpAny_comprehension_free (use := none) rfl hs hclos hkind hnames (wpAny_mono h (fun xv s₁ h₁ => ?_) fun _ _ e => e)
  obtain ⟨d, o, news, kvs, rfl, hh, F, N, hm, hd, lo, hsz, R⟩ := h₁
  obtain ⟨ep, hat⟩ := KdkAt.of hd
  have hD := hat.dictAt (N _ hm).1
  have hlt : d < s₁.heap.objs.size := Heap.lt_size (N _ hm).1
  refine wpAny_pyIter_dict lo hD ?_
  have up : ∀ b o, s₁.heap.get? b = some o → (s₁.heap.push { cls := .type "dict_keyiterator", data := .fields #[.ref d, .int 0 0, .int kvs.length 0, .int ep 0] }).get? b = some o := fun b o e => Heap.get?_push_of_some _ e
  refine block_U (Walks.dictKeys (knd := knd) hh s₁.heap.objs.size d (Nat.ne_of_lt hlt) kvs ep) hsz (fun i h st => by obtain ⟨o, e, _⟩ := st.1; exact ⟨o, e⟩) (dict_st hat) hcell hkind hx ⟨⟨_, Heap.get?_push_size _ rfl, rfl, rfl⟩, hD.push _⟩ (fun b hb => ?_)
    (F.keeps up) (N.grown up) (Nat.ne_of_lt F.ns.lt) (next_is_new F) (fun p hp => Nat.ne_of_lt (Heap.lt_size (N p hp).1)) hm (R _ ⟨_, rfl⟩) ?_
  · show b < (s₁.heap.push _).objs.size
    rw [Heap.size_push]
    rcases List.mem_cons.mp hb with rfl | hb
    · exact Nat.lt_succ_self _
    · rw [List.mem_singleton.mp hb]; exact Nat.lt_succ_of_lt hlt
  · intro D C h tk m' ys news' F' N' o1 hn hC₀ hD₀ hCL hDL hCD offC fin
    refine ⟨m', hn, fun h'' hs'' => fin D h'' tk (F'.change hs'' hCL hC₀) (fun p hp => ?_) o1⟩
    refine ⟨hs''.extBut _ _ ?_ (N' p hp).1, (N' p hp).2⟩
    rcases List.mem_cons.mp hp with rfl | hp
    · exact Ne.symm hCD
    · exact offC p hp
end
end Mine
end

section
open PySem PySem.W PyProof.Rows PySem.Calls PyProof.Rows.LCg PyProof.Rows.LCt
set_option Elab.async false
set_option maxRecDepth 100000
set_option maxHeartbeats 8000000
namespace Mine
theorem lnL1_0 : True := by
  k_with_none
  w_top off
  k_with "pk" => first | exact pk1 | exact pk2 | exact pk3 | exact pk4 | (refine pkS ?_; k_extra "pk")
  k_with "ne" => (refine neN ?_; (try dsimp only); with_reducible first | assumption | exact .symm (by assumption) | exact pk2 (by assumption) | exact pk4 (by assumption) | (refine pkH (by assumption) ?_; k_extra "pk") | (refine pkL (by assumption) ?_; k_extra "pk") | fail)
  k_with "room" => first | exact rmA (by assumption) rfl | exact rmB (by assumption) rfl | exact rmC (by assumption) rfl | fail
  trivial
section
variable {prog : Program} {w : World} {A : Around} {E : Value → Shared → Prop} {s : Shared} {h₀ : Heap} {L : Addr} {m : Str → Option Value} {env : Env}

theorem ints_snoc {ys : List Value} {l : List Int} {k : Int} {t : Tok} (h : IntsAre ys l) : IntsAre (ys ++ [.int k t]) (l ++ [k]) := IntsAre.append h (.cons k t .nil)

/-- a turn of a comprehension with a test: the ledger stays, the answer is known -/
noncomputable def TurnIs (prog : Program) (w : World) (A : Around) (h₀ : Heap) (L : Addr) (m : Str → Option Value) (env : Env) (ct elt : PySem.Expr) (scope : Scope) (cl : List (Str × Addr)) (s : Shared) (S : List (Addr × Obj) → Prop) (news : List (Addr × Obj)) (b : Bool) (k : Int) (I : Addr) (oI : Obj) (C : Addr) (oC : Obj) (D : Addr) (oD : Obj) (E' : Value → Shared → Prop) : Prop :=
  wpAny (model prog w) A (isTrue ct (compEnvC scope cl C env) (eval ct (compEnvC scope cl C env))) (fun ok s' => ok = b ∧ if ok = true then
        wpAny (model prog w) A (eval elt (compEnvC scope cl C env)) (CompEnd h₀ L m s I oI C oC D oD S (fun y news' => news' = news ∧ ∃ t, y = .int k t)) E' s'
        else CompEnd h₀ L m s I oI C oC D oD S (fun _ news' => news' = news) Value.none s') E' s

theorem dsrcT_filter {α : Type} {σ : List α} {key : α → Int} {val : α → Value} {f : α → Bool} {d : Addr} {o : Obj} {news : List (Addr × Obj)} {ct elt : PySem.Expr} {x : Str} {scope : Scope} {cl : List (Str × Addr)} {Q : Value → Shared → Prop}
    (hh : A.handled = none) (F : Fr h₀ L s.heap m) (N : News h₀ L s.heap news) (hm : (d, o) ∈ news) (hd : o.IsDictOf (intKind prog w) (σ.map fun c => (key c, val c))) (lo : (d == sysModules) = false) (hsz : σ.length ≤ sizeLine)
    (turn : ∀ c t I oI C oC D m₂ ys h tk E', c ∈ σ → NsObj oC m₂ → m₂ x = some (.int (key c) t) → Fr h₀ L h m → News h₀ L h ((I, oI) :: (C, oC) :: (D, lst ys) :: news) → Off3 I C D news → ((@Ne Nat I C) ∧ (@Ne Nat I D) ∧ (@Ne Nat C D)) →
      TurnIs prog w A h₀ L m env ct elt scope cl { s with heap := h, toks := tk } (fun nw => (d, o) ∈ nw) news (f c) (key c) I oI C oC D (lst ys) E')
    (fin : ∀ ys D h tk, IntsAre ys ((σ.filter f).map key) → Fr h₀ L h m → News h₀ L h ((D, lst ys) :: news) → Off1 D news → Q (.ref D) { s with heap := h, toks := tk }) :
    DSrcT (intKind prog w) A h₀ L m env ct elt x scope cl (fun s₂ => FinE h₀ L m s₂ Q) (.ref d) s := by
  refine ⟨d, o, news, _, rfl, hh, F, N, hm, hd, lo, by simpa using hsz, ?_⟩
  rintro s₂ ⟨g, rfl⟩
  rw [List.length_map]
  have key' : ∀ (j i : Nat) (ys : List Value), i + j = σ.length → IntsAre ys (((σ.take i).filter f).map key) →
      CompRestT prog w A h₀ L m env ct elt x scope cl { s with heap := g } (fun nw => (d, o) ∈ nw) (fun i v => ∃ k x, (σ.map fun c => (key c, val c))[i]? = some (k, x) ∧ (intKind prog w).is k v = true) (FinE h₀ L m { s with heap := g } Q) j i ys news := by
    intro j
    induction j with
    | zero =>
      intro i ys hi hy
      obtain rfl : i = σ.length := by omega
      rw [List.take_length] at hy
      exact CompRestT.zero fun D h tk F' N' o1 => fin ys D h tk hy F' N' o1
    | succ j ih =>
      intro i ys hi hy
      refine CompRestT.succ ?_
      intro v I oI C oC D m₂ h tk E' hv hC hx F' N' off ne
      obtain ⟨k, vv, hk, hv'⟩ := hv
      obtain ⟨c, hc⟩ : ∃ c, σ[i]? = some c := ⟨σ[i]'(by omega), List.getElem?_eq_getElem (by omega)⟩
      rw [List.getElem?_map, hc] at hk
      have hk := Option.some.inj hk
      have hkc : k = key c := (congrArg Prod.fst hk).symm
      subst hkc
      obtain ⟨t, rfl⟩ : ∃ t, v = .int (key c) t := PySem.Value.isInt_shape hv'
      have hs : σ.take (i + 1) = σ.take i ++ [c] := by rw [List.take_add_one, hc]; rfl
      refine wpAny_mono (turn c t I oI C oC D m₂ ys h tk E' (List.mem_of_getElem? hc) hC hx F' N' off ne) (fun b s₃ hq => ?_) fun _ _ e => e
      obtain ⟨hb, hq⟩ := hq
      subst hb
      cases hf : f c with
      | true =>
        simp only [hf, if_true] at hq ⊢
        refine wpAny_mono hq (fun y s₄ hr => ?_) fun _ _ e => e
        obtain ⟨h', tk', nw, e, F₂, N₂, off₂, hS, rfl, t', rfl⟩ := hr
        refine ⟨h', tk', nw, e, F₂, N₂, off₂, hS, ih (i + 1) _ (by omega) ?_⟩
        rw [hs, List.filter_append, List.map_append]
        simpa [hf] using ints_snoc hy
      | false =>
        simp only [hf, Bool.false_eq_true, if_false] at hq ⊢
        obtain ⟨h', tk', nw, e, F₂, N₂, off₂, hS, rfl⟩ := hq
        refine ⟨h', tk', nw, e, F₂, N₂, off₂, hS, ih (i + 1) _ (by omega) ?_⟩
        rw [hs, List.filter_append, List.map_append]
        simpa [hf] using hy
  exact key' σ.length 0 [] (by omega) .nil
end
end Mine
end

section
open PySem PySem.W PyProof.Rows PySem.Calls PyProof.Rows.LCg PyProof.Rows.LCt
set_option Elab.async false
set_option maxRecDepth 100000
set_option maxHeartbeats 8000000
namespace Mine
theorem lnL2_0 : True := by
  k_with_none
  w_top off
  k_with "pk" => first | exact pk1 | exact pk2 | exact pk3 | exact pk4 | (refine pkS ?_; k_extra "pk")
  k_with "ne" => (refine neN ?_; (try dsimp only); with_reducible first | assumption | exact .symm (by assumption) | exact pk2 (by assumption) | exact pk4 (by assumption) | (refine pkH (by assumption) ?_; k_extra "pk") | (refine pkL (by assumption) ?_; k_extra "pk") | fail)
  k_with "room" => first | exact rmA (by assumption) rfl | exact rmB (by assumption) rfl | exact rmC (by assumption) rfl | fail
  trivial

theorem turn_out (elt t0 i0 t1 i1 : PySem.Expr) (scope : Scope) (pos : Pos) (it acc : Value) (env : Env) :
    compTurn (.ListComp elt [⟨t0, i0, [], 0⟩, ⟨t1, i1, [], 0⟩] scope pos) 0 it acc env = (standAt i0.pos >>= fun _ => pyNext it >>= fun r => match r with
      | none => pure (.done .next)
      | some v => letOwnedTupleGo t0 it v >>= fun _ => assign t0 env v >>= fun _ =>
        (eval i1 env >>= fun x => standAt i1.pos >>= fun _ => foldedSetIterable i1 env x >>= fun x => holding [x] (pyIter x) >>= fun it1 =>
          runOwn (.compStart (.ListComp elt [⟨t0, i0, [], 0⟩, ⟨t1, i1, [], 0⟩] scope pos) 1 it1 acc env) env >>= fun _ => again (.compLoop (.ListComp elt [⟨t0, i0, [], 0⟩, ⟨t1, i1, [], 0⟩] scope pos) 0 it acc env))) := by rfl

theorem turn_in (elt t0 i0 t1 i1 : PySem.Expr) (scope : Scope) (pos : Pos) (it acc : Value) (env : Env) :
    compTurn (.ListComp elt [⟨t0, i0, [], 0⟩, ⟨t1, i1, [], 0⟩] scope pos) 1 it acc env = (standAt i1.pos >>= fun _ => pyNext it >>= fun r => match r with
      | none => pure (.done .next)
      | some v => letOwnedTupleGo t1 it v >>= fun _ => assign t1 env v >>= fun _ =>
        (eval elt env >>= fun x => call (.builtin "list.append") [acc, x] >>= fun _ => pure ()) >>= fun _ => again (.compLoop (.ListComp elt [⟨t0, i0, [], 0⟩, ⟨t1, i1, [], 0⟩] scope pos) 1 it acc env)) := by rfl

section
variable {prog : Program} {w : World} {A : Around} {R : Result → Shared → Prop} {E : Value → Shared → Prop} {s : Shared} {h₀ : Heap} {L : Addr} {m : Str → Option Value} {env : Env}

theorem start_in {elt t0 i0 t1 i1 : PySem.Expr} {scope : Scope} {pos : Pos} {it acc : Value}
    (h0 : codeAny (model prog w) A (.compLoop (.ListComp elt [⟨t0, i0, [], 0⟩, ⟨t1, i1, [], 0⟩] scope pos) 1 it acc env) R s)
    (h : wpAny (model prog w) A (pyIter it) (fun it' s' => codeAny (model prog w) A (.compLoop (.ListComp elt [⟨t0, i0, [], 0⟩, ⟨t1, i1, [], 0⟩] scope pos) 1 it' acc env) R s')
      (notedBy (model prog w) A env fun x s' => R (.error x) s') s) :
    codeAny (model prog w) A (.compStart (.ListComp elt [⟨t0, i0, [], 0⟩, ⟨t1, i1, [], 0⟩] scope pos) 1 it acc env) R s := by
  refine codeAny_of_tree ?_
  show wpAny _ _ ((compStart (.ListComp elt [⟨t0, i0, [], 0⟩, ⟨t1, i1, [], 0⟩] scope pos) 1 it acc env).onRaise (fun x => do noteFrame x env; standAt theWindowsPlace)) _ _ s
  refine wpAny_notedAt ?_
  unfold compStart
  show wpAny _ _ (ask >>= _) _ _ s
  refine wpAny_bind (wpAny_askSetting (wpAny_ite ?_))
  split
  · first
      | exact wpAny_bind (wpAny_pure (wpAny_pure (And.intro rfl h0)))
      | exact wpAny_pure (And.intro rfl h0)
  · first
      | exact wpAny_bind (wpAny_rule (wpAny_bind (wpAny_standAt (wpAny_bind (wpAny_mono h (fun it' s' h' => wpAny_pure (And.intro rfl h')) fun _ _ x => x)))))
      | (refine wpAny_bind (wpAny_rule ?_); show wpAny _ _ (standAt i1.pos >>= _) _ _ s; exact wpAny_bind (wpAny_standAt (wpAny_bind (wpAny_mono h (fun it' s' h' => wpAny_pure (And.intro rfl h')) fun _ _ x => x))))

theorem loop_in {y : Str} {py py' : Pos} {t0 i0 i1 : PySem.Expr} {scope : Scope} {cl : List (Str × Addr)} {pos : Pos} {I d C D : Addr} {kvs : List (Int × Value)} {ep : Nat} {ys₀ : List Value} {news : List (Addr × Obj)} {Keep : Heap → Prop} {m₀ : Str → Option Value}
    (hh : A.handled = none) (hne : d ≠ I) (hsz : ys₀.length + kvs.length ≤ sizeLine)
    (hkind : scope.kind = .function) (hy : scope.names.lookup y = some .local)
    (hk : (compEnvC scope cl C env).scope.kind = .function) (hlo : (compEnvC scope cl C env).kindOf y = some .local) (hdb : (y == ("__debug__" : Str)) = false)
    (st : s.heap.IsKeyIter I d 0 kvs.length ep ∧ s.heap.DictAt (intKind prog w) d kvs ep)
    (F : Fr h₀ L s.heap m) (N : News h₀ L s.heap ((D, lst ys₀) :: news)) (hn : s.heap.Ns C m₀) (hK : Keep s.heap)
    (fK : ∀ h h', Keep h → (∀ b o, b ≠ I → b ≠ C → b ≠ D → h.get? b = some o → h'.get? b = some o) → Keep h')
    (hC₀ : h₀.get? C = none) (hD₀ : h₀.get? D = none) (hI₀ : h₀.get? I = none) (hCL : C ≠ L) (hDL : D ≠ L) (hIL : L ≠ I) (hCD : C ≠ D) (hCI : I ≠ C) (hDI : I ≠ D) (hdC : d ≠ C) (hdD : d ≠ D)
    (off : ∀ p ∈ news, p.1 ≠ I ∧ p.1 ≠ C ∧ p.1 ≠ D)
    (hR : ∀ h' tk vs m', IntsAre vs (kvs.map (·.1)) → Fr h₀ L h' m → News h₀ L h' ((D, lst (ys₀ ++ vs)) :: news) → h'.Ns C m' → Keep h' → R (.ok .next) { s with heap := h', toks := tk }) :
    codeAny (model prog w) A (.compLoop (.ListComp (.Name y py') [⟨t0, i0, [], 0⟩, ⟨.Name y py, i1, [], 0⟩] scope pos) 1 (.ref I) (.ref D) (compEnvC scope cl C env)) R s := by
  have W := Walks.dictKeys (prog := prog) (w := w) (knd := intKind prog w) hh I d hne kvs ep
  refine codeAny_loop rfl (fun k s' => ∃ h' tk j vs m', s' = { s with heap := h', toks := tk } ∧ j ≤ kvs.length ∧ k = kvs.length + 1 - j ∧ IntsAre vs ((kvs.take j).map (·.1)) ∧ (h'.IsKeyIter I d j kvs.length ep ∧ h'.DictAt (intKind prog w) d kvs ep) ∧
      Fr h₀ L h' m ∧ News h₀ L h' ((D, lst (ys₀ ++ vs)) :: news) ∧ h'.Ns C m' ∧ Keep h') ?_ (kvs.length + 1) ⟨s.heap, s.toks, 0, [], m₀, rfl, Nat.zero_le _, rfl, .nil, st, F, by simpa using N, hn, hK⟩
  rintro k s' ⟨h', tk, j, vs, m', rfl, hj, rfl, hvs, st', F', N', hn', hK'⟩
  show wpAny _ A ((compTurn (.ListComp (.Name y py') [⟨t0, i0, [], 0⟩, ⟨.Name y py, i1, [], 0⟩] scope pos) 1 (.ref I) (.ref D) (compEnvC scope cl C env)).onRaise (fun x => do noteFrame x (compEnvC scope cl C env); theTreesLotGoes x)) _ _ _
  refine wpAny_noted ?_
  rw [turn_in]
  refine wpAny_bind (wpAny_standAt (wpAny_bind ?_))
  by_cases hlt : j < kvs.length
  · refine W.item j _ _ _ hlt st' fun v h₂ tk₂ hP st₂ hk₂ => ?_
    obtain ⟨k, x, hkx, hv⟩ := hP
    obtain ⟨t, rfl⟩ := PySem.Value.isInt_shape hv
    refine wpAny_bind (wpAny_pure (wpAny_bind (wpAny_assign_Name (wpAny_storeName_local (lookup_relabel_local hy) (hn'.at' fun o e => hk₂ _ o (by simpa using Ne.symm hCI) e) (fun h₃ hn₃ hs₃ => ?_) (by simp [compEnvC, relabel, hkind])))))
    have F₃ : Fr h₀ L h₃ m := (fr_but F' hk₂ hIL hI₀).change hs₃ hCL hC₀
    have N₂ : News h₀ L h₂ ((D, lst (ys₀ ++ vs)) :: news) := news_but N' hk₂ fun p hp => by
      rcases List.mem_cons.mp hp with rfl | hp
      · exact Ne.symm hDI
      · exact (off p hp).1
    have st₃ := W.frame _ _ h₃ st₂ fun b hb o e => hs₃.extBut b o (fun q => by
      have q' : b = C := q
      rw [q'] at hb
      simp only [List.mem_cons, List.not_mem_nil, or_false] at hb
      rcases hb with z | z
      · exact hCI z.symm
      · exact hdC z.symm) e
    refine wpAny_bind (wpAny_bind (ldVarK hn₃ (if_pos rfl) ?_ hk hlo hdb))
    have eD : h₃.get? D = some (lst (ys₀ ++ vs)) := hs₃.extBut _ _ (Ne.symm hCD) (N₂ _ (.head _)).1
    refine wpAny_bind (append_at (hsz := by show (ys₀ ++ vs).toArray.size ≤ sizeLine; rw [List.size_toArray, List.length_append, IntsAre.length hvs, List.length_map, List.length_take]; omega) eD fun h₅ hs₅ hD₅ => ?_)
    refine wpAny_pure (wpAny_pure ⟨rfl, kvs.length + 1 - (j + 1), by omega, h₅, _, j + 1, vs ++ [.int k t], _, rfl, hlt, rfl, ?_, ?_, F₃.change hs₅ hDL hD₀, ?_, hn₃.sameBut hs₅ (Ne.symm hCD).symm, ?_⟩)
    · rw [List.take_add_one, hkx, List.map_append]
      exact ints_snoc hvs
    · exact W.frame _ _ _ st₃ fun b hb o e => hs₅.extBut b o (fun q => by
        have q' : b = D := q
        rw [q'] at hb
        simp only [List.mem_cons, List.not_mem_nil, or_false] at hb
        rcases hb with z | z
        · exact hDI z.symm
        · exact hdD z.symm) e
    · intro p hp
      rcases List.mem_cons.mp hp with rfl | hp
      · refine ⟨hD₅.trans (congrArg some ?_), hDL, hD₀⟩
        rw [← List.append_assoc]
        exact lst_snoc _ _
      · refine ⟨hs₅.extBut _ _ (off p hp).2.2 (hs₃.extBut _ _ (off p hp).2.1 (N₂ p (.tail _ hp)).1), (N₂ p (.tail _ hp)).2⟩
    · exact fK _ _ hK' fun b o b1 b2 b3 e => hs₅.extBut _ _ b3 (hs₃.extBut _ _ b2 (hk₂ _ _ (by simpa using b1) e))
  · obtain rfl : j = kvs.length := Nat.le_antisymm hj (Nat.not_lt.mp hlt)
    refine W.done _ _ _ st' fun h₂ tk₂ hk₂ => ?_
    refine wpAny_pure (hR h₂ tk₂ vs m' (by rw [List.take_length] at hvs; exact hvs) (fr_but F' hk₂ hIL hI₀) (news_but N' hk₂ fun p hp => ?_) (hn'.at' fun o e => hk₂ _ o (by simpa using Ne.symm hCI) e) (fK _ _ hK' fun b o b1 _ _ e => hk₂ _ _ (by simpa using b1) e))
    rcases List.mem_cons.mp hp with rfl | hp
    · exact Ne.symm hDI
    · exact (off p hp).1

/-- what the second clause's source gives: a dict of the ledger, no change of the heap -/
noncomputable def InnerIs (prog : Program) (w : World) (A : Around) (scope : Scope) (cl : List (Str × Addr)) (env : Env) (i1 : PySem.Expr) (s : Shared) (C d : Addr) (E' : Value → Shared → Prop) : Prop :=
  wpAny (model prog w) A (eval i1 (compEnvC scope cl C env)) (fun x s' => x = .ref d ∧ ∃ tk, s' = { s with toks := tk }) E' s

noncomputable def DDSrc (prog : Program) (w : World) (A : Around) (h₀ : Heap) (L : Addr) (m : Str → Option Value) (env : Env) (i1 : PySem.Expr) (x : Str) (scope : Scope) (cl : List (Str × Addr)) (Q : Value → Shared → Prop) (xv : Value) (s₁ : Shared) : Prop :=
  ∃ (α : Type) (σ : List α) (key : α → Int) (val : α → Value) (dA : α → Addr) (dO : α → Obj) (kv : α → List (Int × Value)) (d : Addr) (o : Obj) (news : List (Addr × Obj)),
    xv = .ref d ∧ A.handled = none ∧ Fr h₀ L s₁.heap m ∧ News h₀ L s₁.heap news ∧ (d, o) ∈ news ∧ o.IsDictOf (intKind prog w) (σ.map fun c => (key c, val c)) ∧ (d == sysModules) = false ∧ σ.length ≤ 100 ∧
    (∀ c ∈ σ, (dA c, dO c) ∈ news ∧ (dO c).IsDictOf (intKind prog w) (kv c) ∧ (dA c == sysModules) = false ∧ (kv c).length ≤ 1000) ∧
    (∀ c t I oI C oC D m₂ ys h tk E', c ∈ σ → NsObj oC m₂ → m₂ x = some (.int (key c) t) → Fr h₀ L h m → News h₀ L h ((I, oI) :: (C, oC) :: (D, lst ys) :: news) → Off3 I C D news → ((@Ne Nat I C) ∧ (@Ne Nat I D) ∧ (@Ne Nat C D)) →
      InnerIs prog w A scope cl env i1 { s₁ with heap := h, toks := tk } C (dA c) E') ∧
    (∀ ys D h tk, IntsAre ys (σ.flatMap fun c => (kv c).map (·.1)) → Fr h₀ L h m → News h₀ L h ((D, lst ys) :: news) → Off1 D news → Q (.ref D) { s₁ with heap := h, toks := tk })

theorem flat_len {α : Type} (kv : α → List (Int × Value)) : ∀ (σ : List α), (∀ c ∈ σ, (kv c).length ≤ 1000) → (σ.flatMap fun c => (kv c).map (·.1)).length ≤ 1000 * σ.length
  | [], _ => Nat.le_refl _
  | c :: r, h => by
    have ih := flat_len kv r fun x hx => h x (.tail _ hx)
    have h1 := h c (.head _)
    simp only [List.flatMap_cons, List.length_append, List.length_map, List.length_cons]
    omega

theorem comp_dd {i0 i1 : PySem.Expr} {x y : Str} {px py py' : Pos} {scope : Scope} {cl : List (Str × Addr)} {pos : Pos} {Q : Value → Shared → Prop} (_F₀ : Fr h₀ L s.heap m)
    (hclos : closureFor scope env = pure cl) (hcell : ∀ y ∈ scope.names, y.2 ≠ .cell) (hkind : scope.kind = .function)
    (hnames : ∀ y ∈ scope.names, y.2 = .local → scope.names.lookup y.1 = some .local) (hx : scope.names.lookup x = some .local) (hy : scope.names.lookup y = some .local)
    (h : wpAny (model prog w) A (eval i0 env) (DDSrc prog w A h₀ L m env i1 x scope cl Q) E s)
    (hk : ∀ C, (compEnvC scope cl C env).scope.kind = .function := by intro _; rfl) (hlo : ∀ C, (compEnvC scope cl C env).kindOf y = some .local := by intro _; rfl) (hdb : (y == ("__debug__" : Str)) = false := by decide)
    (hs0 : ∀ x, foldedSetIterable i0 env x = pure x := by intro _; rfl)
    (hs1 : ∀ C x, foldedSetIterable i1 (compEnvC scope cl C env) x = pure x := by intro _ _; rfl) :
    wpAny (model prog w) A (eval (.ListComp (.Name y py') [⟨.Name x px, i0, [], 0⟩, ⟨.Name y py, i1, [], 0⟩] scope pos) env) Q E s := by
  rw [eval_ListComp]
  refine wpAny_comprehension_free (use := none) rfl hs0 hclos hkind hnames (wpAny_mono h (fun xv s₁ h₁ => ?_) fun _ _ e => e)
  obtain ⟨α, σ, key, val, dA, dO, kv, d, o, news, rfl, hh, F, N, hm, hd, lo, hsz, hin, hturn, hfin⟩ := h₁
  obtain ⟨ep, hat⟩ := KdkAt.of hd
  have hD := hat.dictAt (N _ hm).1
  have hlt : d < s₁.heap.objs.size := Heap.lt_size (N _ hm).1
  refine wpAny_pyIter_dict lo hD ?_
  rw [List.length_map]
  have up : ∀ b o, s₁.heap.get? b = some o → (s₁.heap.push { cls := .type "dict_keyiterator", data := .fields #[.ref d, .int 0 0, .int σ.length 0, .int ep 0] }).get? b = some o := fun b o e => Heap.get?_push_of_some _ e
  have eI : (s₁.heap.push { cls := .type "dict_keyiterator", data := .fields #[.ref d, .int 0 0, .int σ.length 0, .int ep 0] }).get? s₁.heap.objs.size = some _ := Heap.get?_push_size _ rfl
  have szI : (s₁.heap.push { cls := .type "dict_keyiterator", data := .fields #[.ref d, .int 0 0, .int σ.length 0, .int ep 0] }).objs.size = s₁.heap.objs.size + 1 := Heap.size_push ..
  have FI := F.keeps up
  have NI := N.grown up
  have hIL : L ≠ s₁.heap.objs.size := Nat.ne_of_lt F.ns.lt
  have hI₀ := next_is_new F
  have offI : ∀ p ∈ news, @LT.lt Nat _ p.1 s₁.heap.objs.size := fun p hp => Heap.lt_size (N p hp).1
  have hLlt : @LT.lt Nat _ L s₁.heap.objs.size := F.ns.lt
  have fresh₀ : ∀ a : Nat, s₁.heap.objs.size ≤ a → h₀.get? a = none := fun a ha => by
    cases e : h₀.get? a with
    | none => rfl
    | some o' => exact absurd (Heap.lt_size (F.keep a o' e)) (Nat.not_lt.mpr ha)
  generalize s₁.heap.push { cls := .type "dict_keyiterator", data := .fields #[.ref d, .int 0 0, .int σ.length 0, .int ep 0] } = H1 at *
  generalize hI : s₁.heap.objs.size = I at *
  refine wpAny_newObj_type (wpAny_newFunctionEnv hcell (by intro y hy; simp at hy) (fun h₁ hns₁ hsb₁ => ?_) hkind)
  dsimp only at hns₁ hsb₁ ⊢
  have hDs : H1.objs.size = I + 1 := szI
  have eD0 : (H1.push { cls := .type "list", dict := none, data := .seq ([] : List Value).toArray }).get? H1.objs.size = some (lst []) := Heap.get?_push_size _ rfl
  have hCs : (H1.push { cls := .type "list", dict := none, data := .seq ([] : List Value).toArray }).objs.size = H1.objs.size + 1 := Heap.size_push ..
  have up2 : ∀ b o, H1.get? b = some o → (H1.push { cls := .type "list", dict := none, data := .seq ([] : List Value).toArray }).get? b = some o := fun b o e => Heap.get?_push_of_some _ e
  generalize H1.push { cls := .type "list", dict := none, data := .seq ([] : List Value).toArray } = H2 at *
  generalize hDe : H1.objs.size = D at *
  generalize hCe : H2.objs.size = C at *
  have ltIC : I < C := by omega
  have ltID : I < D := by omega
  have ltDC : D < C := by omega
  have old : ∀ b o, H1.get? b = some o → h₁.get? b = some o := fun b o e => by
    have lb : b < D := hDe ▸ Heap.lt_size e
    exact hsb₁.extBut b o (Nat.ne_of_lt (Nat.lt_trans lb ltDC)) (Heap.get?_push_of_some _ (up2 b o e))
  have eI1 := old _ _ eI
  have eD1 : h₁.get? D = some (lst []) := hsb₁.extBut _ _ (Nat.ne_of_lt ltDC) (Heap.get?_push_of_some _ eD0)
  have hCL : C ≠ L := Nat.ne_of_gt (by omega)
  have hDL : D ≠ L := Nat.ne_of_gt (by omega)
  have hC₀ := fresh₀ C (by omega)
  have hD₀ := fresh₀ D (by omega)
  have off : ∀ p ∈ news, p.1 ≠ I ∧ p.1 ≠ C ∧ p.1 ≠ D := fun p hp => by
    have := offI p hp
    exact ⟨Nat.ne_of_lt this, Nat.ne_of_lt (by omega), Nat.ne_of_lt (by omega)⟩
  have hdI : d ≠ I := Nat.ne_of_lt hlt
  have W := Walks.dictKeys (prog := prog) (w := w) (knd := intKind prog w) hh I d hdI (σ.map fun c => (key c, val c)) ep
  have st₁ : h₁.IsKeyIter I d 0 (σ.map fun c => (key c, val c)).length ep ∧ h₁.DictAt (intKind prog w) d (σ.map fun c => (key c, val c)) ep := ⟨⟨_, eI1, rfl, by rw [List.length_map]; try rfl⟩, hat.dictAt (old _ _ (NI _ hm).1)⟩
  have F₁ : Fr h₀ L h₁ m := FI.keeps old
  have N₁ : News h₀ L h₁ ((D, lst []) :: news) := fun p hp => by
    rcases List.mem_cons.mp hp with rfl | hp
    · exact ⟨eD1, hDL, hD₀⟩
    · exact NI.grown old p hp
  have loop : ∀ s₃ : Shared, s₃ = { s₁ with heap := h₁, toks := s₁.toks + ([] : List (Str × Value)).length } →
      codeAny (model prog w) A (.compLoop (.ListComp (.Name y py') [⟨.Name x px, i0, [], 0⟩, ⟨.Name y py, i1, [], 0⟩] scope pos) 0 (.ref I) (.ref D) (compEnvC scope cl C env))
        (compPost (model prog w) A E none Q (.ref D) C) s₃ := by
    rintro s₃ rfl
    refine codeAny_loop rfl (fun k s' => ∃ h' tk i ys m', s' = { s₁ with heap := h', toks := tk } ∧ i ≤ σ.length ∧ k = σ.length + 1 - i ∧ IntsAre ys ((σ.take i).flatMap fun c => (kv c).map (·.1)) ∧
      (h'.IsKeyIter I d i (σ.map fun c => (key c, val c)).length ep ∧ h'.DictAt (intKind prog w) d (σ.map fun c => (key c, val c)) ep) ∧
      Fr h₀ L h' m ∧ News h₀ L h' ((D, lst ys) :: news) ∧ h'.Ns C m') ?_ (σ.length + 1) ⟨h₁, _, 0, [], _, rfl, Nat.zero_le _, rfl, .nil, st₁, F₁, N₁, hns₁⟩
    rintro k s' ⟨h', tk, i, ys, m', rfl, hi, rfl, hys, st', F', N', hn'⟩
    show wpAny _ A ((compTurn (.ListComp (.Name y py') [⟨.Name x px, i0, [], 0⟩, ⟨.Name y py, i1, [], 0⟩] scope pos) 0 (.ref I) (.ref D) (compEnvC scope cl C env)).onRaise (fun x => do noteFrame x (compEnvC scope cl C env); theTreesLotGoes x)) _ _ _
    refine wpAny_noted ?_
    rw [turn_out]
    refine wpAny_bind (wpAny_standAt (wpAny_bind ?_))
    by_cases hlt' : i < σ.length
    · refine W.item i _ _ _ (by rw [List.length_map]; exact hlt') st' fun v h₂ tk₂ hP st₂ hk₂ => ?_
      obtain ⟨k, xx, hkx, hv⟩ := hP
      obtain ⟨t, rfl⟩ := PySem.Value.isInt_shape hv
      obtain ⟨c, hc⟩ : ∃ c, σ[i]? = some c := ⟨σ[i], List.getElem?_eq_getElem hlt'⟩
      have hcm : c ∈ σ := List.mem_of_getElem? hc
      rw [List.getElem?_map, hc] at hkx
      have hkc : k = key c := (congrArg Prod.fst (Option.some.inj hkx)).symm
      subst hkc
      refine wpAny_bind (wpAny_pure (wpAny_bind (wpAny_assign_Name (wpAny_storeName_local (lookup_relabel_local hx) (hn'.at' fun o e => hk₂ _ o (by simp; exact Nat.ne_of_gt ltIC) e) (fun h₃ hn₃ hs₃ => ?_) (by simp [compEnvC, relabel, hkind])))))
      have F₃ : Fr h₀ L h₃ m := (fr_but F' hk₂ hIL hI₀).change hs₃ hCL hC₀
      have N₂ : News h₀ L h₂ ((D, lst ys) :: news) := news_but N' hk₂ fun p hp => by
        rcases List.mem_cons.mp hp with rfl | hp
        · exact Nat.ne_of_gt ltID
        · exact (off p hp).1
      have N₃ : News h₀ L h₃ ((D, lst ys) :: news) := fun p hp => by
        have z := N₂ p hp
        refine ⟨hs₃.extBut _ _ ?_ z.1, z.2⟩
        rcases List.mem_cons.mp hp with rfl | hp
        · exact Nat.ne_of_lt ltDC
        · exact (off p hp).2.1
      have hdC : d ≠ C := (off _ hm).2.1
      have hdD : d ≠ D := (off _ hm).2.2
      have st₃ := W.frame _ _ h₃ st₂ fun b hb o e => hs₃.extBut b o (fun q => by
        have q' : b = C := q
        rw [q'] at hb
        simp only [List.mem_cons, List.not_mem_nil, or_false] at hb
        rcases hb with z | z
        · exact absurd z.symm (Nat.ne_of_lt ltIC)
        · exact hdC z.symm) e
      obtain ⟨oC, heC, hoC⟩ := ns_obj hn₃
      obtain ⟨oI, heI, _⟩ := id st₃.1
      have N₄ : News h₀ L h₃ ((I, oI) :: (C, oC) :: (D, lst ys) :: news) := fun p hp => by
        rcases List.mem_cons.mp hp with rfl | hp
        · exact ⟨heI, Ne.symm hIL, hI₀⟩
        · rcases List.mem_cons.mp hp with rfl | hp
          · exact ⟨heC, hCL, hC₀⟩
          · exact N₃ p hp
      have neI : (@Ne Nat I C) ∧ (@Ne Nat I D) ∧ (@Ne Nat C D) := ⟨Nat.ne_of_lt ltIC, Nat.ne_of_lt ltID, Nat.ne_of_gt ltDC⟩
      refine wpAny_bind (wpAny_mono (hturn c t I oI C oC D _ ys h₃ _ _ hcm hoC (if_pos rfl) F₃ N₄ (Off3.of off) neI) (fun xv s₄ h₄ => ?_) fun _ _ e => e)
      obtain ⟨rfl, tk₄, rfl⟩ := h₄
      obtain ⟨hmi, hdi, loi, hleni⟩ := hin c hcm
      refine wpAny_bind (wpAny_standAt (wpAny_bind (wpAny_of_eq (hs1 C _) (wpAny_bind (wpAny_holding ?_)))))
      obtain ⟨ep₂, hat₂⟩ := KdkAt.of hdi
      have hD₂ := hat₂.dictAt (N₃ _ (.tail _ hmi)).1
      have hlt₂ : dA c < h₃.objs.size := Heap.lt_size (N₃ _ (.tail _ hmi)).1
      refine wpAny_pyIter_dict loi hD₂ ?_
      have up4 : ∀ b o, h₃.get? b = some o → (h₃.push { cls := .type "dict_keyiterator", data := .fields #[.ref (dA c), .int 0 0, .int (kv c).length 0, .int ep₂ 0] }).get? b = some o := fun b o e => Heap.get?_push_of_some _ e
      have e4 : (h₃.push { cls := .type "dict_keyiterator", data := .fields #[.ref (dA c), .int 0 0, .int (kv c).length 0, .int ep₂ 0] }).get? h₃.objs.size = some _ := Heap.get?_push_size _ rfl
      have hI2₀ := next_is_new F₃
      have hL2 : @LT.lt Nat _ L h₃.objs.size := F₃.ns.lt
      have hI2 : @LT.lt Nat _ I h₃.objs.size := Heap.lt_size heI
      have hC2 : @LT.lt Nat _ C h₃.objs.size := Heap.lt_size heC
      have hD2 : @LT.lt Nat _ D h₃.objs.size := Heap.lt_size (N₃ _ (.head _)).1
      have off2 : ∀ p ∈ news, @LT.lt Nat _ p.1 h₃.objs.size := fun p hp => Heap.lt_size (N₃ p (.tail _ hp)).1
      dsimp only
      generalize h₃.push { cls := .type "dict_keyiterator", data := .fields #[.ref (dA c), .int 0 0, .int (kv c).length 0, .int ep₂ 0] } = H4 at *
      generalize h₃.objs.size = I2 at *
      have st4 : H4.IsKeyIter I2 (dA c) 0 (kv c).length ep₂ ∧ H4.DictAt (intKind prog w) (dA c) (kv c) ep₂ := ⟨⟨_, e4, rfl, rfl⟩, hat₂.dictAt (up4 _ _ (N₃ _ (.tail _ hmi)).1)⟩
      have hlys : ys.length ≤ 100000 := by
        rw [IntsAre.length hys]
        have h1 := flat_len kv (σ.take i) (fun c' hc' => (hin c' (List.mem_of_mem_take hc')).2.2.2)
        rw [List.length_take] at h1
        omega
      have hmark : (A.mark none).handled = none := hh
      have N5 : News h₀ L H4 ((D, lst ys) :: news) := N₃.grown up4
      have keep4 := W.frame _ _ H4 st₃ fun b _ o e => up4 b o e
      refine wpAny_bind (wpAny_runOwn ?_)
      have key' : ∀ R' : Result → Shared → Prop, (∀ h' tk vs m', IntsAre vs ((kv c).map (·.1)) → Fr h₀ L h' m → News h₀ L h' ((D, lst (ys ++ vs)) :: news) → h'.Ns C m' →
          (h'.IsKeyIter I d (i + 1) (σ.map fun c => (key c, val c)).length ep ∧ h'.DictAt (intKind prog w) d (σ.map fun c => (key c, val c)) ep) → R' (.ok .next) { s₁ with heap := h', toks := tk }) →
          codeAny (model prog w) (A.mark none) (.compLoop (.ListComp (.Name y py') [⟨.Name x px, i0, [], 0⟩, ⟨.Name y py, i1, [], 0⟩] scope pos) 1 (.ref I2) (.ref D) (compEnvC scope cl C env)) R' { s₁ with heap := H4, toks := tk₄ } := by
        intro R' hR'
        refine loop_in (s := { s₁ with heap := H4, toks := tk₄ }) (h₀ := h₀) (L := L) (m := m) (news := news) (ys₀ := ys) (d := dA c) (kvs := kv c) (ep := ep₂) (m₀ := _) (Keep := fun h' => h'.IsKeyIter I d (i + 1) (σ.map fun c => (key c, val c)).length ep ∧ h'.DictAt (intKind prog w) d (σ.map fun c => (key c, val c)) ep)
          hmark (Nat.ne_of_lt hlt₂) (by rw [PySem.sizeLine_eq]; omega) hkind hy (hk C) (hlo C) hdb st4 (F₃.keeps up4) N5 (hn₃.at' fun o e => up4 _ o e) keep4 ?_ hC₀ hD₀ hI2₀ hCL hDL (Nat.ne_of_lt hL2) (Nat.ne_of_gt ltDC) (Nat.ne_of_gt hC2) (Nat.ne_of_gt hD2) (off _ hmi).2.1 (off _ hmi).2.2
          (fun p hp => ⟨Nat.ne_of_lt (off2 p hp), (off p hp).2⟩) ?_
        · intro g g' hg hgg
          refine W.frame _ _ _ hg fun b hb o e => ?_
          simp only [List.mem_cons, List.not_mem_nil, or_false] at hb
          rcases hb with rfl | rfl
          · exact hgg _ o (Nat.ne_of_lt hI2) (Nat.ne_of_lt ltIC) (Nat.ne_of_lt ltID) e
          · exact hgg _ o (Nat.ne_of_lt (off2 _ hm)) hdC hdD e
        · intro h' tk vs m'' hvs F'' N'' hn'' hkeep
          exact hR' h' tk vs m'' hvs F'' N'' hn'' hkeep
      have fin1 : ∀ h' tk_ vs m'', IntsAre vs ((kv c).map (·.1)) → Fr h₀ L h' m → News h₀ L h' ((D, lst (ys ++ vs)) :: news) → h'.Ns C m'' →
          (h'.IsKeyIter I d (i + 1) (σ.map fun c => (key c, val c)).length ep ∧ h'.DictAt (intKind prog w) d (σ.map fun c => (key c, val c)) ep) → ∃ k, k < σ.length + 1 - i ∧ ∃ h'' tk i ys m', ({ s₁ with heap := h', toks := tk_ } : Shared) = { s₁ with heap := h'', toks := tk } ∧ i ≤ σ.length ∧ k = σ.length + 1 - i ∧ IntsAre ys ((σ.take i).flatMap fun c => (kv c).map (·.1)) ∧
      (h''.IsKeyIter I d i (σ.map fun c => (key c, val c)).length ep ∧ h''.DictAt (intKind prog w) d (σ.map fun c => (key c, val c)) ep) ∧
      Fr h₀ L h'' m ∧ News h₀ L h'' ((D, lst ys) :: news) ∧ h''.Ns C m' := by
        intro h' tk vs m'' hvs F'' N'' hn'' hkeep
        refine ⟨σ.length + 1 - (i + 1), by omega, h', tk, i + 1, ys ++ vs, m'', rfl, hlt', rfl, ?_, hkeep, F'', N'', hn''⟩
        rw [List.take_add_one, hc, List.flatMap_append]
        refine IntsAre.append hys ?_
        simpa using hvs
      refine start_in (key' _ fun h' tk vs m'' a1 a2 a3 a4 a5 => wpAny_pure ⟨rfl, fin1 h' tk vs m'' a1 a2 a3 a4 a5⟩) (wpAny_pyIter_keyiter st4.1 (key' _ fun h' tk vs m'' a1 a2 a3 a4 a5 => wpAny_pure ⟨rfl, fin1 h' tk vs m'' a1 a2 a3 a4 a5⟩))
    · obtain rfl : i = σ.length := Nat.le_antisymm hi (Nat.not_lt.mp hlt')
      rw [List.take_length] at hys
      refine W.done _ _ _ (by rw [List.length_map]; rw [List.length_map] at st'; exact st') fun h₂ tk₂ hk₂ => wpAny_pure ?_
      refine ⟨m', hn'.at' fun o e => hk₂ _ o (by simp; exact Nat.ne_of_gt ltIC) e, fun h'' hs'' => hfin ys D h'' tk₂ hys ((fr_but F' hk₂ hIL hI₀).change hs'' hCL hC₀) (fun p hp => ?_) (Off3.one (Off3.of (I := I) (C := C) off))⟩
      have z := news_but N' hk₂ (fun p hp => by
        rcases List.mem_cons.mp hp with rfl | hp
        · exact Nat.ne_of_gt ltID
        · exact (off p hp).1) p hp
      refine ⟨hs''.extBut _ _ ?_ z.1, z.2⟩
      rcases List.mem_cons.mp hp with rfl | hp
      · exact Nat.ne_of_lt ltDC
      · exact (off p hp).2.1
  exact codeAny_compStart_list (loop _ rfl) (wpAny_pyIter_keyiter st₁.1 (loop _ rfl))

noncomputable def TurnEl (prog : Program) (w : World) (A : Around) (h₀ : Heap) (L : Addr) (m : Str → Option Value) (env : Env) (elt : PySem.Expr) (scope : Scope) (cl : List (Str × Addr)) (s : Shared) (S : List (Addr × Obj) → Prop) (news : List (Addr × Obj)) (k : Int) (I : Addr) (oI : Obj) (C : Addr) (oC : Obj) (D : Addr) (oD : Obj) (E' : Value → Shared → Prop) : Prop :=
  wpAny (model prog w) A (eval elt (compEnvC scope cl C env)) (CompEnd h₀ L m s I oI C oC D oD S (fun y news' => news' = news ∧ ∃ t, y = .int k t)) E' s

theorem dsrcU_map {α : Type} {σ : List α} {key : α → Int} {val : α → Value} {g : α → Int} {d : Addr} {o : Obj} {news : List (Addr × Obj)} {elt : PySem.Expr} {x : Str} {scope : Scope} {cl : List (Str × Addr)} {Q : Value → Shared → Prop}
    (hh : A.handled = none) (F : Fr h₀ L s.heap m) (N : News h₀ L s.heap news) (hm : (d, o) ∈ news) (hd : o.IsDictOf (intKind prog w) (σ.map fun c => (key c, val c))) (lo : (d == sysModules) = false) (hsz : σ.length ≤ sizeLine)
    (turn : ∀ c t I oI C oC D m₂ ys h tk E', c ∈ σ → NsObj oC m₂ → m₂ x = some (.int (key c) t) → Fr h₀ L h m → News h₀ L h ((I, oI) :: (C, oC) :: (D, lst ys) :: news) → Off3 I C D news → ((@Ne Nat I C) ∧ (@Ne Nat I D) ∧ (@Ne Nat C D)) →
      TurnEl prog w A h₀ L m env elt scope cl { s with heap := h, toks := tk } (fun nw => (d, o) ∈ nw) news (g c) I oI C oC D (lst ys) E')
    (fin : ∀ ys D h tk, IntsAre ys (σ.map g) → Fr h₀ L h m → News h₀ L h ((D, lst ys) :: news) → Off1 D news → Q (.ref D) { s with heap := h, toks := tk }) :
    DSrcU (intKind prog w) A h₀ L m env elt x scope cl (fun s₂ => FinE h₀ L m s₂ Q) (.ref d) s := by
  refine ⟨d, o, news, _, rfl, hh, F, N, hm, hd, lo, by simpa using hsz, ?_⟩
  rintro s₂ ⟨g', rfl⟩
  rw [List.length_map]
  have key' : ∀ (j i : Nat) (ys : List Value), i + j = σ.length → IntsAre ys ((σ.take i).map g) →
      CompRest prog w A h₀ L m env elt x scope cl { s with heap := g' } (fun nw => (d, o) ∈ nw) (fun i v => ∃ k x, (σ.map fun c => (key c, val c))[i]? = some (k, x) ∧ (intKind prog w).is k v = true) (FinE h₀ L m { s with heap := g' } Q) j i ys news := by
    intro j
    induction j with
    | zero =>
      intro i ys hi hy
      obtain rfl : i = σ.length := by omega
      rw [List.take_length] at hy
      exact CompRest.zero fun D h tk F' N' o1 => fin ys D h tk hy F' N' o1
    | succ j ih =>
      intro i ys hi hy
      refine CompRest.succ ?_
      intro v I oI C oC D m₂ h tk E' hv hC hx F' N' off ne
      obtain ⟨k, vv, hk, hv'⟩ := hv
      obtain ⟨c, hc⟩ : ∃ c, σ[i]? = some c := ⟨σ[i]'(by omega), List.getElem?_eq_getElem (by omega)⟩
      rw [List.getElem?_map, hc] at hk
      have hk := Option.some.inj hk
      have hkc : k = key c := (congrArg Prod.fst hk).symm
      subst hkc
      obtain ⟨t, rfl⟩ : ∃ t, v = .int (key c) t := PySem.Value.isInt_shape hv'
      have hs : σ.take (i + 1) = σ.take i ++ [c] := by rw [List.take_add_one, hc]; rfl
      refine wpAny_mono (turn c t I oI C oC D m₂ ys h tk E' (List.mem_of_getElem? hc) hC hx F' N' off ne) (fun y s₄ hr => ?_) fun _ _ e => e
      obtain ⟨h', tk', nw, e, F₂, N₂, off₂, hS, rfl, t', rfl⟩ := hr
      refine ⟨h', tk', nw, e, F₂, N₂, off₂, hS, ih (i + 1) _ (by omega) ?_⟩
      rw [hs, List.map_append]
      exact ints_snoc hy
  exact key' σ.length 0 [] (by omega) .nil
end
end Mine
end

section
open PySem PySem.W PyProof.Rows PySem.Calls PyProof.Rows.LCg PyProof.Rows.LCt
set_option Elab.async false
set_option maxRecDepth 100000
set_option maxHeartbeats 8000000
namespace Mine
theorem lnS0_0 : True := by
  k_with_none
  w_top off
  k_with "pk" => first | exact pk1 | exact pk2 | exact pk3 | exact pk4 | (refine pkS ?_; k_extra "pk")
  k_with "ne" => (refine neN ?_; (try dsimp only); with_reducible first | assumption | exact .symm (by assumption) | exact pk2 (by assumption) | exact pk4 (by assumption) | (refine pkH (by assumption) ?_; k_extra "pk") | (refine pkL (by assumption) ?_; k_extra "pk") | fail)
  k_with "room" => first | exact rmA (by assumption) rfl | exact rmB (by assumption) rfl | exact rmC (by assumption) rfl | fail
  trivial

/-- one session, as both sides hold it -/
structure Ses where
  num : Int
  goal : Int
  gt : Tok
  gt2 : Tok
  vl : Value
  vl2 : Value
  kv : List (Int × Value)
  kv2 : List (Int × Value)
  inst : Addr
  dict : Addr
  src : Addr
  lst : Addr
  src2 : Addr
  so : Obj
  so2 : Obj
  t1 : Tok
  t2 : Tok
  t3 : Tok
  n1 : Nat
  n2 : Nat

noncomputable abbrev mirD (w : World) (t1 t2 tm : Tok) (S : Addr) (n : Nat) : Obj := dictOf [⟨PyData.keyHash w.params (Str.ofString "most"), .str (Str.ofString "most") t1, .int 3 tm⟩, ⟨PyData.keyHash w.params (Str.ofString "sessions"), .str (Str.ofString "sessions") t2, .ref S⟩] n
noncomputable abbrev sesD (w : World) (c : Ses) : Obj := dictOf [⟨PyData.keyHash w.params (Str.ofString "goal"), .str (Str.ofString "goal") c.t1, .int c.goal c.gt⟩, ⟨PyData.keyHash w.params (Str.ofString "vlan"), .str (Str.ofString "vlan") c.t2, c.vl⟩, ⟨PyData.keyHash w.params (Str.ofString "sources"), .str (Str.ofString "sources") c.t3, .ref c.src⟩] c.n1
noncomputable abbrev Ses.led (w : World) (c : Ses) : List (Addr × Obj) := [(c.inst, instObj 161 c.dict), (c.dict, sesD w c), (c.src, c.so), (c.lst, listOf #[.int c.goal c.gt2, c.vl2, .ref c.src2] c.n2), (c.src2, c.so2)]
noncomputable def ledS (w : World) (σ : List Ses) : List (Addr × Obj) := σ.flatMap (Ses.led w)
theorem ledS_mem {w : World} {σ : List Ses} {c : Ses} (hc : c ∈ σ) : ∀ q ∈ c.led w, q ∈ ledS w σ := fun q hq => List.mem_flatMap.mpr ⟨c, hc, hq⟩

noncomputable abbrev kvM (σ : List Ses) : List (Int × Value) := σ.map fun c => (c.num, Value.ref c.inst)
noncomputable abbrev kvO (σ : List Ses) : List (Int × Value) := σ.map fun c => (c.num, Value.ref c.lst)

noncomputable def bare : Value → Value
  | .str x _ => .str x 0
  | v => v
noncomputable def SameKv (a b : List (Int × Value)) : Prop := a.map (fun p => (p.1, bare p.2)) = b.map (fun p => (p.1, bare p.2))

structure Ses.Ok (prog : Program) (w : World) (c : Ses) : Prop where
  so : c.so.IsDictOf (intKind prog w) c.kv
  so2 : c.so2.IsDictOf (intKind prog w) c.kv2
  same : SameKv c.kv c.kv2
  txt : ∀ p ∈ c.kv, ∃ x t, p.2 = .str x t
  vlan : (c.vl = .none ∧ c.vl2 = .none) ∨ ∃ v t t', c.vl = .int v t ∧ c.vl2 = .int v t'
  lo : (c.src == sysModules) = false
  lo2 : (c.src2 == sysModules) = false
  len : c.kv.length ≤ 1000
  len2 : c.kv2.length ≤ 1000

theorem valueAt_map {α : Type} (f : α → Int) (g : α → Value) : ∀ (σ : List α) (k : Int), valueAt (σ.map fun c => (f c, g c)) k = (σ.find? fun c => f c = k).map g
  | [], _ => rfl
  | c :: r, k => by
    have ih := valueAt_map f g r k
    unfold valueAt at ih ⊢
    rw [List.map_cons, List.find?_cons, List.find?_cons]
    by_cases h : f c = k
    · simp [h]
    · simp only [h, decide_false]
      exact ih

theorem find_nodup {α : Type} (f : α → Int) : ∀ (σ : List α), (σ.map f).Nodup → ∀ c ∈ σ, σ.find? (fun x => f x = f c) = some c
  | [], _, _, h => nomatch h
  | d :: r, hn, c, hc => by
    rw [List.map_cons, List.nodup_cons] at hn
    rw [List.find?_cons]
    by_cases h : f d = f c
    · rcases List.mem_cons.mp hc with rfl | hc
      · simp
      · exact absurd (List.mem_map.mpr ⟨c, hc, h.symm⟩) hn.1
    · simp only [h, decide_false]
      rcases List.mem_cons.mp hc with rfl | hc
      · exact absurd rfl h
      · exact find_nodup f r hn.2 c hc

theorem valueAt_ses {α : Type} (f : α → Int) (g : α → Value) {σ : List α} (hn : (σ.map f).Nodup) {c : α} (hc : c ∈ σ) : valueAt (σ.map fun c => (f c, g c)) (f c) = some (g c) := by
  rw [valueAt_map, find_nodup f σ hn c hc]; rfl

section
variable {prog : Program} {w : World} {A : Around} {E : Value → Shared → Prop} {s : Shared} {h₀ : Heap} {L : Addr} {news : List (Addr × Obj)}
theorem dict_getitem {K : Type} [DecidableEq K] {knd : KeyKind prog w K} {d : Addr} {o : Obj} {kvs : List (K × Value)} {k : K} {key v : Value} {Q : Value → Shared → Prop} (hkey : knd.is k key = true) (N : News h₀ L s.heap news) (hp : (d, o) ∈ news) (hd : o.IsDictOf knd kvs) (hl : valueAt kvs k = some v) (h : Q v { s with toks := s.toks + 1 }) :
    wpAny (model prog w) A (getItem (.ref d) key) Q E s := wpAny_getItem_of hkey (kda_dict N hp hd).mapOf hl h
end
theorem filter_ne_nil {α : Type} (f : α → Bool) (g : α → Int) (σ : List α) : (!decide ((σ.filter f).map g = [])) = σ.any f := by
  induction σ with
  | nil => rfl
  | cons c r ih =>
    rw [List.filter_cons, List.any_cons]
    cases h : f c with
    | true => simp
    | false => simpa using ih
end Mine
end

section
open PySem PySem.W PyProof.Rows PySem.Calls PyProof.Rows.LCg PyProof.Rows.LCt
set_option Elab.async false
set_option maxRecDepth 100000
set_option maxHeartbeats 8000000
namespace Mine
theorem lnG1_0 : True := by
  k_with_none
  w_top off
  k_with "pk" => first | exact pk1 | exact pk2 | exact pk3 | exact pk4 | (refine pkS ?_; k_extra "pk")
  k_with "ne" => (refine neN ?_; (try dsimp only); with_reducible first | assumption | exact .symm (by assumption) | exact pk2 (by assumption) | exact pk4 (by assumption) | (refine pkH (by assumption) ?_; k_extra "pk") | (refine pkL (by assumption) ?_; k_extra "pk") | fail)
  k_with "room" => first | exact rmA (by assumption) rfl | exact rmB (by assumption) rfl | exact rmC (by assumption) rfl | fail
  trivial
section
variable {prog : Program} {w : World} {p : Program} {loose : List Str} {mean : ExcName → Option Value} {mg mb : Str → Option Value} {dp un : Nat} {gd : Option (List Code)} {cn : Str} {cs : Scope} {a : Addr} {ccd : Value} {cl : List (Str × Addr)} {outer : List Env} {A₀ : Around} {base h₀ : Heap} {L : Addr} {m : Str → Option Value} {s : Shared} {Q E : Value → Shared → Prop} {news : List (Addr × Obj)}



theorem lnG1_1 : True := by
  k_with "eval ListComp" => (k_here; k_dflt (refine comp_dT (PySem.intKind _ _) (by k_asm) (by with_unfolding_all rfl) (by decide) (by rfl) (by decide) (by rfl) ?_))
  k_with "getItem ref int" => (k_here; (with_reducible show wpAny _ _ (getItem (Value.ref _) (Value.int _ _)) _ _ _); (refine' dict_getitem (knd := PySem.intKind _ _) (intKind_is _ _ _ _) ?NQ10 ?hQ10 ?dQ10 ?lQ10 ?_; (case NQ10 => k_asm); (case hQ10 => k_mem); (case dQ10 => k_asm); (case lQ10 => exact valueAt_ses Ses.num (fun c => Value.ref c.inst) (by assumption) (by assumption))))
  k_with "compareOp In int ref" => (k_here; (refine' kda_in (knd := PySem.intKind _ _) ?NQ11 ?hQ11 ?dQ11 ?lQ11 (intKind_is _ _ _ _) _ ?bQ11 ?_; (case NQ11 => k_asm); (case hQ11 => k_mem); (case dQ11 => k_asm); (case lQ11 => assumption); (case bQ11 => exact rfl); k_whole))
  k_with "compareOp NotEq ref ref" => (k_here; k_dflt (refine ke_ne_ints (by is_list) (ys := []) (by is_list) (by assumption) .nil (by ke_room) ?_))
  trivial
theorem goal_ledger {w : World} {M dM S : Addr} {oS : Obj} {t1 t2 tm : Tok} {nM : Nat} {σ : List Ses} (hm : ∀ q ∈ (M, instObj 236 dM) :: (dM, mirD w t1 t2 tm S nM) :: (S, oS) :: ledS w σ, q ∈ news) (N0 : News h₀ L s.heap news) : News h₀ L s.heap ((M, instObj 236 dM) :: (dM, mirD w t1 t2 tm S nM) :: (S, oS) :: news) := ledger_sub N0 (by
    intro q hq
    rcases List.mem_cons.mp hq with rfl | hq
    · exact hm _ (.head _)
    rcases List.mem_cons.mp hq with rfl | hq
    · exact hm _ (.tail _ (.head _))
    rcases List.mem_cons.mp hq with rfl | hq
    · exact hm _ (.tail _ (.tail _ (.head _)))
    exact hq)

theorem turn_ledger {w : World} {a1 a2 a3 a4 a5 a6 a7 a8 : Addr × Obj} {h : Heap} {σ : List Ses} {c : Ses} (hc : c ∈ σ) (hm : ∀ q ∈ ledS w σ, q ∈ news) (N : News h₀ L h (a1 :: a2 :: a3 :: a4 :: a5 :: a6 :: a7 :: a8 :: news)) :
    News h₀ L h (a1 :: a2 :: a3 :: a4 :: a5 :: a6 :: a7 :: a8 :: (c.inst, instObj 161 c.dict) :: (c.dict, sesD w c) :: (c.src, c.so) :: news) := ledger_sub N fun q hq => (List.mem_append (s := [a1, a2, a3, a4, a5, a6, a7, a8]).mp hq).elim (fun z => List.mem_append_left (as := [a1, a2, a3, a4, a5, a6, a7, a8]) news z) fun z => List.mem_append_right [a1, a2, a3, a4, a5, a6, a7, a8] ((List.forall_mem_cons.mpr ⟨hm _ (ledS_mem hc _ (.head _)), List.forall_mem_cons.mpr ⟨hm _ (ledS_mem hc _ (.tail _ (.head _))), List.forall_mem_cons.mpr ⟨hm _ (ledS_mem hc _ (.tail _ (.tail _ (.head _)))), fun _ h => h⟩⟩⟩ : ∀ q ∈ _, q ∈ news) q z)

theorem is_goal_spec {M dM S : Addr} {oS : Obj} {t1 t2 tm : Tok} {nM : Nat} {σ : List Ses} {port : Int} {tn : Tok}
    (B : Below A₀ base outer h₀) (F : Fr h₀ L s.heap m) (X : (pre.heap_1 w.params).In h₀) (N0 : News h₀ L s.heap news) (T : Top p loose mean mg mb h₀) (hk : cs.kind = .function)
    (hm : ∀ q ∈ (M, instObj 236 dM) :: (dM, mirD w t1 t2 tm S nM) :: (S, oS) :: ledS w σ, q ∈ news)
    (hd : dp + 210 < recursionLimit) (hu : un + 80 < cLine) (hS : oS.IsDictOf (intKind prog w) (kvM σ)) (lo : (S == sysModules) = false) (hn : (σ.map (·.num)).Nodup) (hl : σ.length ≤ 3)
    (hret : ∀ h' tk', Fr h₀ L h' m → News h₀ L h' news → Q (.bool (σ.any fun c => c.goal = port)) { s with heap := h', toks := tk' }) :
    wpAny (model prog w) (ktrTop dp un gd cn cs L a ccd cl outer) (call (.ref 185) [.ref M, .int port tn]) Q E s := by
  have N := goal_ledger hm N0
  refine wpAny_call ?_
  k_dflt (refine' code_defC ?k1Q13 ?k2Q13 ?k3Q13 ?k4Q13 ?k5Q13 ?kAQ13 ?kFQ13 ?kKQ13 ?k6Q13 ?k7Q13 ?k8Q13 ?k9Q13 ?kBQ13 ?kDQ13 ?_ ?c2Q13 ?c3Q13 ?c4Q13; (case kAQ13 => exact rfl); (case kFQ13 => exact rfl); (case kKQ13 => assumption); (case k1Q13 => k_asm); (case k2Q13 => k_asm); (case k3Q13 => k_asm); (case k4Q13 => k_asm); (case k5Q13 => k_asm); (case k6Q13 => k_is); (case k7Q13 => k_is); (case k8Q13 => ktr_room); (case k9Q13 => exact BindsTo.of_eq rfl); (case kBQ13 => exact rfl); (case kDQ13 => decide +kernel); (case c2Q13 => exact rfl); (case c3Q13 => exact rfl); (case c4Q13 => exact rfl); k_whole; intro g' L' h' tk' cells' FG' F' N' Y' B' X' T' l1; (try k_lt l1); k_cells Y'; (try simp only [List.cons_append, List.nil_append] at N'); (try dsimp only); (try k_lift B'); (try k_fold))
  k_steps
  refine dsrcT_filter (σ := σ) (key := (·.num)) (val := fun c => .ref c.inst) (f := fun c => c.goal = port) (by rfl) (by assumption) (by assumption) (by k_mem) hS lo (by rw [PySem.sizeLine_eq]; omega) ?_ ?_
  · intro c t I oI C oC D m₂ ys h tk E' hc hC hx F2 N2 off ne
    unfold TurnIs
    have N3 := turn_ledger hc (fun q hq => hm q (.tail _ (.tail _ (.tail _ hq)))) N2
    skip
    k_steps
    all_goals first
      | exact ⟨_, _, _, rfl, by assumption, by assumption, off, by k_mem, rfl, _, rfl⟩
      | exact ⟨_, _, _, rfl, by assumption, by assumption, off, by k_mem, rfl⟩
      | skip
    all_goals trace_state
  · intro ys D h tk hy F3 N3 o3
    dsimp only
    k_steps
    rw [filter_ne_nil]
    refine hret _ _ ?_ ?_
    · assumption
    · exact ledger_sub (by assumption) (by intro q hq; simp [hq])

theorem is_source_spec {M dM S : Addr} {oS : Obj} {t1 t2 tm : Tok} {nM : Nat} {σ : List Ses} {port : Int} {tn : Tok}
    (B : Below A₀ base outer h₀) (F : Fr h₀ L s.heap m) (X : (pre.heap_1 w.params).In h₀) (N0 : News h₀ L s.heap news) (T : Top p loose mean mg mb h₀) (hk : cs.kind = .function)
    (hm : ∀ q ∈ (M, instObj 236 dM) :: (dM, mirD w t1 t2 tm S nM) :: (S, oS) :: ledS w σ, q ∈ news)
    (hd : dp + 210 < recursionLimit) (hu : un + 80 < cLine) (hS : oS.IsDictOf (intKind prog w) (kvM σ)) (lo : (S == sysModules) = false) (hn : (σ.map (·.num)).Nodup) (hl : σ.length ≤ 3) (ok : ∀ c ∈ σ, c.Ok prog w)
    (hret : ∀ h' tk', Fr h₀ L h' m → News h₀ L h' news → Q (.bool (σ.any fun c => (valueAt c.kv port).isSome)) { s with heap := h', toks := tk' }) :
    wpAny (model prog w) (ktrTop dp un gd cn cs L a ccd cl outer) (call (.ref 190) [.ref M, .int port tn]) Q E s := by
  have N := goal_ledger hm N0
  refine wpAny_call ?_
  k_dflt (refine' code_defC ?k1Q14 ?k2Q14 ?k3Q14 ?k4Q14 ?k5Q14 ?kAQ14 ?kFQ14 ?kKQ14 ?k6Q14 ?k7Q14 ?k8Q14 ?k9Q14 ?kBQ14 ?kDQ14 ?_ ?c2Q14 ?c3Q14 ?c4Q14; (case kAQ14 => exact rfl); (case kFQ14 => exact rfl); (case kKQ14 => assumption); (case k1Q14 => k_asm); (case k2Q14 => k_asm); (case k3Q14 => k_asm); (case k4Q14 => k_asm); (case k5Q14 => k_asm); (case k6Q14 => k_is); (case k7Q14 => k_is); (case k8Q14 => ktr_room); (case k9Q14 => exact BindsTo.of_eq rfl); (case kBQ14 => exact rfl); (case kDQ14 => decide +kernel); (case c2Q14 => exact rfl); (case c3Q14 => exact rfl); (case c4Q14 => exact rfl); k_whole; intro g' L' h' tk' cells' FG' F' N' Y' B' X' T' l1; (try k_lt l1); k_cells Y'; (try simp only [List.cons_append, List.nil_append] at N'); (try dsimp only); (try k_lift B'); (try k_fold))
  k_steps
  refine dsrcT_filter (σ := σ) (key := (·.num)) (val := fun c => .ref c.inst) (f := fun c => (valueAt c.kv port).isSome) (by rfl) (by assumption) (by assumption) (by k_mem) hS lo (by rw [PySem.sizeLine_eq]; omega) ?_ ?_
  · intro c t I oI C oC D m₂ ys h tk E' hc hC hx F2 N2 off ne
    unfold TurnIs
    have N3 := turn_ledger hc (fun q hq => hm q (.tail _ (.tail _ (.tail _ hq)))) N2
    obtain ⟨hso, -, -, -, -, hlo, -, -, -⟩ := ok c hc
    k_steps
    all_goals first
      | exact ⟨_, _, _, rfl, by assumption, by assumption, off, by k_mem, rfl, _, rfl⟩
      | exact ⟨_, _, _, rfl, by assumption, by assumption, off, by k_mem, rfl⟩
      | skip
    all_goals trace_state
  · intro ys D h tk hy F3 N3 o3
    dsimp only
    k_steps
    rw [filter_ne_nil]
    refine hret _ _ ?_ ?_
    · assumption
    · exact ledger_sub (by assumption) (by intro q hq; simp [hq])

end
end Mine
end

section
open PySem PySem.W PyProof.Rows PySem.Calls PyProof.Rows.LCg PyProof.Rows.LCt
set_option Elab.async false
set_option maxRecDepth 100000
set_option maxHeartbeats 8000000
namespace Mine
theorem lnP3_0 : True := by
  k_with_none
  w_top off
  k_with "pk" => first | exact pk1 | exact pk2 | exact pk3 | exact pk4 | (refine pkS ?_; k_extra "pk")
  k_with "ne" => (refine neN ?_; (try dsimp only); with_reducible first | assumption | exact .symm (by assumption) | exact pk2 (by assumption) | exact pk4 (by assumption) | (refine pkH (by assumption) ?_; k_extra "pk") | (refine pkL (by assumption) ?_; k_extra "pk") | fail)
  k_with "room" => first | exact rmA (by assumption) rfl | exact rmB (by assumption) rfl | exact rmC (by assumption) rfl | fail
  trivial
section
variable {prog : Program} {w : World} {p : Program} {loose : List Str} {mean : ExcName → Option Value} {mg mb : Str → Option Value} {dp un : Nat} {gd : Option (List Code)} {cn : Str} {cs : Scope} {a : Addr} {ccd : Value} {cl : List (Str × Addr)} {outer : List Env} {A₀ : Around} {base h₀ : Heap} {L : Addr} {m : Str → Option Value} {s : Shared} {Q E : Value → Shared → Prop} {news : List (Addr × Obj)}



theorem lnP3_1 : True := by
  k_with "exec Raise some none" => (k_here; k_dflt (refine raise_own (by rfl) ?_))
  k_with "call ref" => (k_here; (with_reducible show wpAny _ _ (call (Value.ref 51) _) _ _ _); (refine' exc_make ?BQ16 ?FQ16 ?XQ16 ?NQ16 ?TQ16 ?kQ16 ?dQ16 ?uQ16 ?_; (case BQ16 => k_asm); (case FQ16 => k_asm); (case XQ16 => k_asm); (case NQ16 => k_asm); (case TQ16 => k_asm); (case kQ16 => first | exact rfl | assumption); (case dQ16 => ktr_room); (case uQ16 => ktr_units)); intro h' tk' e' t1' d1' F' N' o1' o2' o3'; revert h' tk' e' t1' d1' F' N' o1' o2' o3'; intro _ _ _ _ _ _ _ _ _ _)
  k_with "RaisableX" => (k_here; refine ⟨_, _, _, rfl, (‹News _ _ _ ((_, excOd _ _) :: _)› _ (.head _)).1, rfl, rfl, rfl, Frag.In.keeps (by k_asm) (Fr.keep (by k_asm)), ?_⟩)
  k_with "leaving ref" => (k_here; (refine' leave_raiseZ ?BQ18 ?FQ18 ?NQ18 ?o1Q18 ?o2Q18 ?o3Q18 ?_; (case BQ18 => k_asm); (case FQ18 => k_asm); (case NQ18 => k_asm); (case o1Q18 => assumption); (case o2Q18 => assumption); (case o3Q18 => assumption)); intro h' R' U'; (try dsimp only at R' U' ⊢); revert h' R' U'; intro _ _ _)
  k_with "compareOp NotIn int ref" => (k_here; (refine' kdg_notin (knd := PySem.intKind _ _) ?NQ19 ?hQ19 ?dQ19 ?lQ19 (intKind_is _ _ _ _) _ ?bQ19 ?_; (case NQ19 => k_asm); (case hQ19 => k_mem); (case dQ19 => k_asm); (case lQ19 => k_asm); (case bQ19 => assumption); k_whole); (try dsimp only [Bool.not_true, Bool.not_false]))
  k_with "getItem ref int" => (k_here; (with_reducible show wpAny _ _ (getItem (Value.ref _) (Value.int _ _)) _ _ _); (refine' dict_getitem (knd := PySem.intKind _ _) (intKind_is _ _ _ _) ?NQ20 ?hQ20 ?dQ20 ?lQ20 ?_; (case NQ20 => k_asm); (case hQ20 => k_mem); (case dQ20 => k_asm); (case lQ20 => assumption)))
  k_with "subscriptTail" => (k_here; k_dflt ((with_reducible show wpAny _ _ (subscriptTail _ _ (Value.ref _) (Value.int _ _)) _ _ _); refine kda_item (knd := PySem.intKind _ _) (by k_asm) (by k_mem) (by k_asm) (intKind_is _ _ _ _) (by assumption) ?_))
  trivial
theorem mir_ledger {w : World} {M dM S : Addr} {oS : Obj} {t1 t2 tm : Tok} {nM : Nat} (hm : ∀ q ∈ [(M, instObj 236 dM), (dM, mirD w t1 t2 tm S nM), (S, oS)], q ∈ news) (N0 : News h₀ L s.heap news) : News h₀ L s.heap ((M, instObj 236 dM) :: (dM, mirD w t1 t2 tm S nM) :: (S, oS) :: news) := ledger_sub N0 (by
    intro q hq
    rcases List.mem_cons.mp hq with rfl | hq
    · exact hm _ (.head _)
    rcases List.mem_cons.mp hq with rfl | hq
    · exact hm _ (.tail _ (.head _))
    rcases List.mem_cons.mp hq with rfl | hq
    · exact hm _ (.tail _ (.tail _ (.head _)))
    exact hq)

theorem raised_sub {base G : Heap} {l : List Env} {e t : Addr} {cls : Value} {vs : List Value} {news news' : List (Addr × Obj)} {h : Heap} (R : RaisedS base G l e cls t vs news h) (hs : ∀ q ∈ news', q ∈ news) : RaisedS base G l e cls t vs news' h := by
  obtain ⟨⟨B, a1, a2, a3, a4⟩, b⟩ := R
  exact ⟨⟨B, a1, a2, fun q hq => a3 q (hs q hq), a4⟩, b⟩

theorem session_bad {M dM S : Addr} {oS : Obj} {t1 t2 tm : Tok} {nM : Nat} {kvs : List (Int × Value)} {num : Int} {tn : Tok}
    (B : Below A₀ base outer h₀) (F : Fr h₀ L s.heap m) (X : (pre.heap_1 w.params).In h₀) (N0 : News h₀ L s.heap news) (T : Top p loose mean mg mb h₀) (hk : cs.kind = .function)
    (hm : ∀ q ∈ [(M, instObj 236 dM), (dM, mirD w t1 t2 tm S nM), (S, oS)], q ∈ news)
    (hd : dp + 220 < recursionLimit) (hu : un + 40 < cLine) (hS : oS.IsDictOf (intKind prog w) kvs) (lo : (S == sysModules) = false) (hv : (valueAt kvs num).isSome = false)
    (hraise : ∀ G h' tk e t vs, Fr h₀ L G m → RaisedS base G (envX cn cs L a ccd cl :: outer) e (.ref 51) t vs news h' → G.UpToSlots h' → E (.ref e) { s with heap := h', toks := tk }) :
    wpAny (model prog w) (ktrTop dp un gd cn cs L a ccd cl outer) (call (.ref 205) [.ref M, .int num tn]) Q E s := by
  have N := mir_ledger hm N0
  refine wpAny_call ?_
  k_dflt ktr_enter
  k_steps
  exact hraise _ _ _ _ _ _ (by assumption) (raised_sub (by assumption) (by intro q hq; simp [hq])) (by assumption)

theorem session_ok {M dM S : Addr} {oS : Obj} {t1 t2 tm : Tok} {nM : Nat} {kvs : List (Int × Value)} {num : Int} {tn : Tok} {v : Value}
    (B : Below A₀ base outer h₀) (F : Fr h₀ L s.heap m) (X : (pre.heap_1 w.params).In h₀) (N0 : News h₀ L s.heap news) (T : Top p loose mean mg mb h₀) (hk : cs.kind = .function)
    (hm : ∀ q ∈ [(M, instObj 236 dM), (dM, mirD w t1 t2 tm S nM), (S, oS)], q ∈ news)
    (hd : dp + 220 < recursionLimit) (hu : un + 40 < cLine) (hS : oS.IsDictOf (intKind prog w) kvs) (lo : (S == sysModules) = false) (hv : valueAt kvs num = some v)
    (hret : ∀ h' tk, Fr h₀ L h' m → News h₀ L h' news → Q v { s with heap := h', toks := tk }) :
    wpAny (model prog w) (ktrTop dp un gd cn cs L a ccd cl outer) (call (.ref 205) [.ref M, .int num tn]) Q E s := by
  have N := mir_ledger hm N0
  have hv' : (valueAt kvs num).isSome = true := by rw [hv]; rfl
  refine wpAny_call ?_
  k_dflt ktr_enter
  k_steps
  exact hret _ _ (by assumption) (ledger_sub (by assumption) (by intro q hq; simp [hq]))

end
end Mine
end

section
open PySem PySem.W PyProof.Rows PySem.Calls PyProof.Rows.LCg PyProof.Rows.LCt
set_option Elab.async false
set_option maxRecDepth 100000
set_option maxHeartbeats 8000000
namespace Mine
theorem lnM1_0 : True := by
  k_with_none
  w_top off
  k_with "pk" => first | exact pk1 | exact pk2 | exact pk3 | exact pk4 | (refine pkS ?_; k_extra "pk")
  k_with "ne" => (refine neN ?_; (try dsimp only); with_reducible first | assumption | exact .symm (by assumption) | exact pk2 (by assumption) | exact pk4 (by assumption) | (refine pkH (by assumption) ?_; k_extra "pk") | (refine pkL (by assumption) ?_; k_extra "pk") | fail)
  k_with "room" => first | exact rmA (by assumption) rfl | exact rmB (by assumption) rfl | exact rmC (by assumption) rfl | fail
  trivial
section
variable {prog : Program} {w : World} {p : Program} {loose : List Str} {mean : ExcName → Option Value} {mg mb : Str → Option Value} {dp un : Nat} {gd : Option (List Code)} {cn : Str} {cs : Scope} {a : Addr} {ccd : Value} {cl : List (Str × Addr)} {outer : List Env} {A₀ : Around} {base h₀ : Heap} {L : Addr} {m : Str → Option Value} {s : Shared} {Q E : Value → Shared → Prop} {news : List (Addr × Obj)}


theorem lnM1_1 : True := by
  k_with "exec Raise some none" => (k_here; k_dflt (refine raise_own (by rfl) ?_))
  k_with "call ref" => (k_here; (with_reducible show wpAny _ _ (call (Value.ref 51) _) _ _ _); (refine' exc_make ?BQ23 ?FQ23 ?XQ23 ?NQ23 ?TQ23 ?kQ23 ?dQ23 ?uQ23 ?_; (case BQ23 => k_asm); (case FQ23 => k_asm); (case XQ23 => k_asm); (case NQ23 => k_asm); (case TQ23 => k_asm); (case kQ23 => first | exact rfl | assumption); (case dQ23 => ktr_room); (case uQ23 => ktr_units)); intro h' tk' e' t1' d1' F' N' o1' o2' o3'; revert h' tk' e' t1' d1' F' N' o1' o2' o3'; intro _ _ _ _ _ _ _ _ _ _)
  k_with "RaisableX" => (k_here; refine ⟨_, _, _, rfl, (‹News _ _ _ ((_, excOd _ _) :: _)› _ (.head _)).1, rfl, rfl, rfl, Frag.In.keeps (by k_asm) (Fr.keep (by k_asm)), ?_⟩)
  k_with "leaving ref" => (k_here; (refine' leave_raiseZ ?BQ25 ?FQ25 ?NQ25 ?o1Q25 ?o2Q25 ?o3Q25 ?_; (case BQ25 => k_asm); (case FQ25 => k_asm); (case NQ25 => k_asm); (case o1Q25 => assumption); (case o2Q25 => assumption); (case o3Q25 => assumption)); intro h' R' U'; (try dsimp only at R' U' ⊢); revert h' R' U'; intro _ _ _)
  trivial



theorem lnM1_2 : True := by
  k_with "compareOp In int ref" => (k_here; (refine' kda_in (knd := PySem.intKind _ _) ?NQ26 ?hQ26 ?dQ26 ?lQ26 (intKind_is _ _ _ _) _ ?bQ26 ?_; (case NQ26 => k_asm); (case hQ26 => k_mem); (case dQ26 => k_asm); (case lQ26 => assumption); (case bQ26 => exact rfl); k_whole))
  k_with "call builtin:len" => (k_here; (with_reducible show wpAny _ _ (call (Value.builtin "len") [Value.ref _]) _ _ _); k_dflt (refine kda_len (knd := PySem.intKind _ _) (by k_asm) (by k_mem) (by k_asm) (by k_asm) (by rw [List.length_map]; omega) ?_))
  k_with "call ref" => (k_here; (with_reducible show wpAny _ _ (call (Value.ref 185) _) _ _ _); (refine' is_goal_spec ?BQ28 ?FQ28 ?XQ28 ?NQ28 ?TQ28 ?kQ28 ?mQ28 ?dQ28 ?uQ28 ?SQ28 ?lQ28 ?nQ28 ?lenQ28 ?_; (case BQ28 => k_asm); (case FQ28 => k_asm); (case XQ28 => k_asm); (case NQ28 => k_asm); (case TQ28 => k_asm); (case kQ28 => first | exact rfl | assumption); (case SQ28 => assumption); (case mQ28 => assumption); (case dQ28 => ktr_room); (case uQ28 => ktr_units); (case lQ28 => assumption); (case nQ28 => assumption); (case lenQ28 => assumption)); intro h' tk' F' N'; revert h' tk' F' N'; intro _ _ _ _)
  k_with "call ref" => (k_here; (with_reducible show wpAny _ _ (call (Value.ref 190) _) _ _ _); (refine' is_source_spec ?BQ29 ?FQ29 ?XQ29 ?NQ29 ?TQ29 ?kQ29 ?mQ29 ?dQ29 ?uQ29 ?SQ29 ?lQ29 ?nQ29 ?lenQ29 ?okQ29 ?_; (case BQ29 => k_asm); (case FQ29 => k_asm); (case XQ29 => k_asm); (case NQ29 => k_asm); (case TQ29 => k_asm); (case kQ29 => first | exact rfl | assumption); (case SQ29 => assumption); (case mQ29 => assumption); (case dQ29 => ktr_room); (case uQ29 => ktr_units); (case lQ29 => assumption); (case nQ29 => assumption); (case lenQ29 => assumption); (case okQ29 => assumption)); intro h' tk' F' N'; revert h' tk' F' N'; intro _ _ _ _)
  k_with "call ref" => (k_here; (with_reducible show wpAny _ _ (call (Value.ref 161) _) _ _ _); k_dflt ((refine' call_cls ?k1Q30 ?k2Q30 ?k3Q30 ?k4Q30 ?k5Q30 ?k6Q30 ?_; (case k1Q30 => k_asm); (case k2Q30 => k_asm); (case k3Q30 => k_asm); (case k4Q30 => k_is); (case k5Q30 => k_is); (case k6Q30 => k_is); k_whole; intro x' d' h' F' N' l1 l2; (try k_lt l1); (try k_lt2 l2); (try k_sweep); revert x' d' h' F' N' l1 l2; intro _ _ _ _ _ _ _); (refine' code_def ?k1Q32 ?k2Q32 ?k3Q32 ?k4Q32 ?k5Q32 ?kAQ32 ?kFQ32 ?kKQ32 ?k6Q32 ?k7Q32 ?k8Q32 ?k9Q32 ?kBQ32 ?_ ?c2Q32 ?c3Q32 ?c4Q32 ?c5Q32; (case kAQ32 => exact rfl); (case kFQ32 => exact rfl); (case kKQ32 => first | exact rfl | assumption); (case k1Q32 => k_asm); (case k2Q32 => k_asm); (case k3Q32 => k_asm); (case k4Q32 => k_asm); (case k5Q32 => k_asm); (case k6Q32 => k_is); (case k7Q32 => k_is); (case k8Q32 => ktr_room); (case k9Q32 => first | exact binds_K (by k_in) rfl (by k_is) rfl rfl rfl | exact BindsTo.of_eq rfl); (case c5Q32 => decide); (case kBQ32 => exact locs rfl); (case c2Q32 => exact rfl); (case c3Q32 => exact rfl); (case c4Q32 => exact rfl); k_whole; intro g' L' h' FG' F' N' B' X' T'; (try dsimp only); (try k_fold); revert g' L' h' FG' F' N' B' X' T'; intro _ _ _ _ _ _ _ _ _)))
  k_with "setItem ref int" => (k_here; k_dflt (refine' kda_set (knd := PySem.intKind _ _) ?FQ31 ?NQ31 ?UQ31 ?dQ31 (intKind_is _ _ _ _) ?zQ31 ?_; (case FQ31 => k_asm); (case NQ31 => k_asm); (case UQ31 => k_updF); (case dQ31 => k_asm); (case zQ31 => rw [sizeLine_eq, List.length_map]; omega)); intro h' o' F' N' hd'; (try dsimp only at N'); revert h' o' F' N' hd'; intro _ _ _ _ _)
  trivial
noncomputable def MakeOk (σ : List Ses) (num goal : Int) : Prop := (valueAt (kvM σ) num).isSome = false ∧ σ.length < 3 ∧ (σ.any fun c => c.goal = goal) = false ∧ (σ.any fun c => (valueAt c.kv goal).isSome) = false

theorem make_ledger {h : Heap} {x1 x2 x3 x4 x5 x6 : Addr × Obj} {rest : List (Addr × Obj)} (N : News h₀ L h (x1 :: x2 :: x3 :: x4 :: x5 :: x6 :: rest)) : News h₀ L h (x6 :: x2 :: x3 :: x1 :: rest) := ledger_sub N (by
  intro q hq
  simp only [List.mem_cons] at hq ⊢
  rcases hq with h | h | h | h | h <;> simp [h])

theorem make_spec {M dM S : Addr} {oS : Obj} {t1 t2 tm : Tok} {nM : Nat} {σ : List Ses} {num goal : Int} {tn tg : Tok} {vl : Value} {rest : List (Addr × Obj)}
    (B : Below A₀ base outer h₀) (F : Fr h₀ L s.heap m) (X : (pre.heap_1 w.params).In h₀) (N0 : News h₀ L s.heap ((S, oS) :: rest)) (T : Top p loose mean mg mb h₀) (hk : cs.kind = .function)
    (hoff : ∀ q ∈ rest, q.1 ≠ S)
    (hm : ∀ q ∈ (M, instObj 236 dM) :: (dM, mirD w t1 t2 tm S nM) :: ledS w σ, q ∈ rest)
    (hd : dp + 240 < recursionLimit) (hu : un + 200 < cLine) (hS : oS.IsDictOf (intKind prog w) (kvM σ)) (lo : (S == sysModules) = false) (hn : (σ.map (·.num)).Nodup) (hl : σ.length ≤ 3) (ok : ∀ c ∈ σ, c.Ok prog w)
    (hret : MakeOk σ num goal → ∀ h' tk inst d src so oS' s1 s2 s3 n1, Fr h₀ L h' m → News h₀ L h' ((S, oS') :: (inst, instObj 161 d) :: (d, dictOf [⟨PyData.keyHash w.params (Str.ofString "goal"), .str (Str.ofString "goal") s1, .int goal tg⟩, ⟨PyData.keyHash w.params (Str.ofString "vlan"), .str (Str.ofString "vlan") s2, vl⟩, ⟨PyData.keyHash w.params (Str.ofString "sources"), .str (Str.ofString "sources") s3, .ref src⟩] n1) :: (src, so) :: rest) →
      oS'.IsDictOf (intKind prog w) (stored (kvM σ) num (.ref inst)) → so.IsDictOf (intKind prog w) [] → (src == sysModules) = false → (∀ q ∈ (S, oS) :: rest, q.1 < d) → d < inst → inst < src → Q .none { s with heap := h', toks := tk })
    (hraise : ¬ MakeOk σ num goal → ∀ G h' tk e t vs, Fr h₀ L G m → RaisedS base G (envX cn cs L a ccd cl :: outer) e (.ref 51) t vs ((S, oS) :: rest) h' → G.UpToSlots h' → E (.ref e) { s with heap := h', toks := tk }) :
    wpAny (model prog w) (ktrTop dp un gd cn cs L a ccd cl outer) (call (.ref 198) [.ref M, .int num tn, .int goal tg, vl]) Q E s := by
  have N : News h₀ L s.heap ((M, instObj 236 dM) :: (dM, mirD w t1 t2 tm S nM) :: (S, oS) :: rest) := ledger_sub N0 (by
    intro q hq
    simp only [List.mem_cons] at hq ⊢
    rcases hq with h | h | h | h
    · right; rw [h]; exact hm _ (.head _)
    · right; rw [h]; exact hm _ (.tail _ (.head _))
    · left; exact h
    · right; exact h)
  have hMS : M ≠ S := hoff _ (hm _ (.head _))
  have hdS : dM ≠ S := hoff _ (hm _ (.tail _ (.head _)))
  have hm' : ∀ q ∈ (M, instObj 236 dM) :: (dM, mirD w t1 t2 tm S nM) :: (S, oS) :: ledS w σ, q ∈ (M, instObj 236 dM) :: (dM, mirD w t1 t2 tm S nM) :: (S, oS) :: rest := by
    intro q hq
    simp only [List.mem_cons] at hq ⊢
    rcases hq with h | h | h | h
    · exact .inl h
    · exact .inr (.inl h)
    · exact .inr (.inr (.inl h))
    · exact .inr (.inr (.inr (hm _ (.tail _ (.tail _ h)))))
  refine wpAny_call ?_
  k_dflt (refine' code_def ?k1Q33 ?k2Q33 ?k3Q33 ?k4Q33 ?k5Q33 ?kAQ33 ?kFQ33 ?kKQ33 ?k6Q33 ?k7Q33 ?k8Q33 ?k9Q33 ?kBQ33 ?_ ?c2Q33 ?c3Q33 ?c4Q33 ?c5Q33; (case kAQ33 => exact rfl); (case kFQ33 => exact rfl); (case kKQ33 => first | exact rfl | assumption); (case k1Q33 => k_asm); (case k2Q33 => k_asm); (case k3Q33 => k_asm); (case k4Q33 => k_asm); (case k5Q33 => k_asm); (case k6Q33 => k_is); (case k7Q33 => k_is); (case k8Q33 => ktr_room); (case k9Q33 => first | exact binds_K (by k_in) rfl (by k_is) rfl rfl rfl | exact BindsTo.of_eq rfl); (case c5Q33 => decide); (case kBQ33 => exact locs rfl); (case c2Q33 => exact rfl); (case c3Q33 => exact rfl); (case c4Q33 => exact rfl); k_whole; intro g' L' h' FG' F' N' B' X' T'; (try dsimp only); (try k_fold); revert g' L' h' FG' F' N' B' X' T'; intro _ _ _ _ _ _ _ _ _)
  k_steps
  all_goals (try simp only [kvM, List.length_map] at *)
  all_goals first
    | (refine hraise ?_ _ _ _ _ _ _ (by assumption) (raised_sub (by assumption) (by intro q hq; rcases List.mem_cons.mp hq with rfl | hq; (· simp); (· simp [hq]))) (by assumption); (intro hok; obtain ⟨q1, q2, q3, q4⟩ := hok; first | omega | simp_all))
    | (refine hret ⟨by assumption, by omega, by assumption, by assumption⟩ _ _ _ _ _ _ _ _ _ _ _ (by assumption) (make_ledger (by assumption)) (by assumption) (by assumption) (by assumption) ?_ (by assumption) ?_)
  · rename (_ ∧ _ ∧ _ ∧ AllLt _ rest) => hlt
    intro q hq
    rcases List.mem_cons.mp hq with rfl | hq
    · exact hlt.2.2.1
    · exact allLt_mem hlt.2.2.2 q hq
  · rename (_ ∧ _ ∧ _ ∧ _ ∧ _ ∧ AllLt _ rest) => hlt
    exact hlt.1

end
end Mine
end

section
open PySem PySem.W PyProof.Rows PySem.Calls PyProof.Rows.LCg PyProof.Rows.LCt
set_option Elab.async false
set_option maxRecDepth 100000
set_option maxHeartbeats 8000000
namespace Mine
theorem lnM2_0 : True := by
  k_with_none
  w_top off
  k_with "pk" => first | exact pk1 | exact pk2 | exact pk3 | exact pk4 | (refine pkS ?_; k_extra "pk")
  k_with "ne" => (refine neN ?_; (try dsimp only); with_reducible first | assumption | exact .symm (by assumption) | exact pk2 (by assumption) | exact pk4 (by assumption) | (refine pkH (by assumption) ?_; k_extra "pk") | (refine pkL (by assumption) ?_; k_extra "pk") | fail)
  k_with "room" => first | exact rmA (by assumption) rfl | exact rmB (by assumption) rfl | exact rmC (by assumption) rfl | fail
  trivial
section
variable {prog : Program} {w : World} {p : Program} {loose : List Str} {mean : ExcName → Option Value} {mg mb : Str → Option Value} {dp un : Nat} {gd : Option (List Code)} {cn : Str} {cs : Scope} {a : Addr} {ccd : Value} {cl : List (Str × Addr)} {outer : List Env} {A₀ : Around} {base h₀ : Heap} {L : Addr} {m : Str → Option Value} {s : Shared} {Q E : Value → Shared → Prop} {news : List (Addr × Obj)}



theorem lnM2_1 : True := by
  k_with "exec Raise some none" => (k_here; k_dflt (refine raise_own (by rfl) ?_))
  k_with "call ref" => (k_here; (with_reducible show wpAny _ _ (call (Value.ref 51) _) _ _ _); (refine' exc_make ?BQ35 ?FQ35 ?XQ35 ?NQ35 ?TQ35 ?kQ35 ?dQ35 ?uQ35 ?_; (case BQ35 => k_asm); (case FQ35 => k_asm); (case XQ35 => k_asm); (case NQ35 => k_asm); (case TQ35 => k_asm); (case kQ35 => first | exact rfl | assumption); (case dQ35 => ktr_room); (case uQ35 => ktr_units)); intro h' tk' e' t1' d1' F' N' o1' o2' o3'; revert h' tk' e' t1' d1' F' N' o1' o2' o3'; intro _ _ _ _ _ _ _ _ _ _)
  k_with "RaisableX" => (k_here; refine ⟨_, _, _, rfl, (‹News _ _ _ ((_, excOd _ _) :: _)› _ (.head _)).1, rfl, rfl, rfl, Frag.In.keeps (by k_asm) (Fr.keep (by k_asm)), ?_⟩)
  k_with "leaving ref" => (k_here; (refine' leave_raiseZ ?BQ37 ?FQ37 ?NQ37 ?o1Q37 ?o2Q37 ?o3Q37 ?_; (case BQ37 => k_asm); (case FQ37 => k_asm); (case NQ37 => k_asm); (case o1Q37 => assumption); (case o2Q37 => assumption); (case o3Q37 => assumption)); intro h' R' U'; (try dsimp only at R' U' ⊢); revert h' R' U'; intro _ _ _)
  k_with "leaving ref" => (k_here; (refine' leave_onS ?k1Q38 ?k2Q38 ?k3Q38 ?k4Q38 ?_; (case k3Q38 => assumption); (case k1Q38 => assumption); (case k4Q38 => assumption); (case k2Q38 => assumption); k_whole; intro h' R' K' U'; (try dsimp only at R' U' ⊢); revert h' R' K' U'; intro _ _ _ _))
  k_with "compareOp NotIn int ref" => (k_here; (refine' kdg_notin (knd := PySem.intKind _ _) ?NQ39 ?hQ39 ?dQ39 ?lQ39 (intKind_is _ _ _ _) _ ?bQ39 ?_; (case NQ39 => k_asm); (case hQ39 => k_mem); (case dQ39 => assumption); (case lQ39 => assumption); (case bQ39 => exact rfl); k_whole); (try dsimp only [Bool.not_true, Bool.not_false]))
  k_with "getItem ref int" => (k_here; (with_reducible show wpAny _ _ (getItem (Value.ref _) (Value.int _ _)) _ _ _); (refine' dict_getitem (knd := PySem.intKind _ _) (intKind_is _ _ _ _) ?NQ40 ?hQ40 ?dQ40 ?lQ40 ?_; (case NQ40 => k_asm); (case hQ40 => k_mem); (case dQ40 => k_asm); (case lQ40 => assumption)))
  k_with "subscriptTail" => (k_here; k_dflt ((with_reducible show wpAny _ _ (subscriptTail _ _ (Value.ref _) (Value.int _ _)) _ _ _); refine kda_item (knd := PySem.intKind _ _) (by k_asm) (by k_mem) (by k_asm) (intKind_is _ _ _ _) (by assumption) ?_))
  k_with "call ref" => (k_here; (with_reducible show wpAny _ _ (call (Value.ref 185) _) _ _ _); (refine' is_goal_spec ?BQ42 ?FQ42 ?XQ42 ?NQ42 ?TQ42 ?kQ42 ?mQ42 ?dQ42 ?uQ42 ?SQ42 ?lQ42 ?nQ42 ?lenQ42 ?_; (case BQ42 => k_asm); (case FQ42 => k_asm); (case XQ42 => k_asm); (case NQ42 => k_asm); (case TQ42 => k_asm); (case kQ42 => first | exact rfl | assumption); (case mQ42 => assumption); (case SQ42 => assumption); (case dQ42 => ktr_room); (case uQ42 => ktr_units); (case lQ42 => assumption); (case nQ42 => assumption); (case lenQ42 => assumption)); intro h' tk' F' N'; revert h' tk' F' N'; intro _ _ _ _)
  k_with "call ref" => (k_here; (with_reducible show wpAny _ _ (call (Value.ref 205) _) _ _ _); (refine' session_ok ?BQ43 ?FQ43 ?XQ43 ?NQ43 ?TQ43 ?kQ43 ?mQ43 ?dQ43 ?uQ43 ?SQ43 ?lQ43 ?vQ43 ?_; (case BQ43 => k_asm); (case FQ43 => k_asm); (case XQ43 => k_asm); (case NQ43 => k_asm); (case TQ43 => k_asm); (case kQ43 => first | exact rfl | assumption); (case mQ43 => assumption); (case SQ43 => assumption); (case dQ43 => ktr_room); (case uQ43 => ktr_units); (case lQ43 => assumption); (case vQ43 => assumption)); intro h' tk' F' N'; revert h' tk' F' N'; intro _ _ _ _)
  k_with "call ref" => (k_here; (with_reducible show wpAny _ _ (call (Value.ref 205) _) _ _ _); (refine' session_bad ?BQ44 ?FQ44 ?XQ44 ?NQ44 ?TQ44 ?kQ44 ?mQ44 ?dQ44 ?uQ44 ?SQ44 ?lQ44 ?vQ44 ?_; (case BQ44 => k_asm); (case FQ44 => k_asm); (case XQ44 => k_asm); (case NQ44 => k_asm); (case TQ44 => k_asm); (case kQ44 => first | exact rfl | assumption); (case mQ44 => assumption); (case SQ44 => assumption); (case dQ44 => ktr_room); (case uQ44 => ktr_units); (case lQ44 => assumption); (case vQ44 => assumption)); intro G' h' tk' e' t' vs' F' R' U'; revert G' h' tk' e' t' vs' F' R' U'; intro _ _ _ _ _ _ _ _ _)
  k_with "setItem ref int" => (k_here; k_dflt (refine' kda_set (knd := PySem.intKind _ _) ?FQ45 ?NQ45 ?UQ45 ?dQ45 (intKind_is _ _ _ _) ?zQ45 ?_; (case FQ45 => k_asm); (case NQ45 => k_asm); (case UQ45 => k_updF); (case dQ45 => k_asm); (case zQ45 => rw [sizeLine_eq]; omega)); intro h' o' F' N' hd'; (try dsimp only at N'); revert h' o' F' N' hd'; intro _ _ _ _ _)
  k_with "call builtin:dict.pop" => (k_here; k_dflt (((with_reducible show wpAny _ _ (call (Value.builtin "dict.pop") [Value.ref _, Value.int _ _]) _ _ _); refine' kob_pop (knd := PySem.intKind _ _) (more := []) ?FQ46 ?NQ46 ?UQ46 ?dQ46 (intKind_is _ _ _ _) (.inl rfl) (by rfl) (PySem.F.args_dict_pop_2 _ _) ?lQ46 ?zQ46 ?_; (case FQ46 => k_asm); (case NQ46 => k_asm); (case UQ46 => k_updF); (case dQ46 => k_asm); (case lQ46 => assumption); (case zQ46 => rw [sizeLine_eq]; omega))); intro h' o' F' N' hd'; (try dsimp only at N'); revert h' o' F' N' hd'; intro _ _ _ _ _)
  k_with "getMethod ref" => (k_here; (with_reducible show wpAny _ _ (getMethod (Value.ref _) (Str.ofString "pop") _) _ _ _); k_dflt (refine kob_method (knd := PySem.intKind _ _) PySem.F.slot_dict_pop PySem.F.type_dict_pop (by k_asm) (by k_mem) (by k_asm) ?_))
  trivial
theorem ways_at {h : Heap} (X : (pre.heap_1 w.params).In h) : IsTup h 130 #[.str (Str.ofString "in") 358, .str (Str.ofString "out") 359, .str (Str.ofString "both") 360] := ⟨_, X _ _ (by k_is), rfl, _, rfl⟩
noncomputable abbrev waysL : List Str := [Str.ofString "in", Str.ofString "out", Str.ofString "both"]
theorem notin_ways {A : Around} {x : Str} {u : Tok} {Q : Value → Shared → Prop} (X : (pre.heap_1 w.params).In s.heap) (h : Q (.bool (!(waysL.any (· == x)))) s) : wpAny (model prog w) A (compareOp .NotIn (.str x u) (.ref 130)) Q E s :=
  notin_tuple_strs (ways_at X) (.cons _ _ (.cons _ _ (.cons _ _ .nil))) h

theorem lnM2_2 : True := by
  k_with "compareOp NotIn str ref" => (k_here; refine notin_ways (Frag.In.keeps (by k_asm) (Fr.keep (by k_asm))) ?_)
  trivial
theorem head_ledger {x1 x2 x3 : Addr × Obj} (hm : ∀ q ∈ [x1, x2, x3], q ∈ news) (N0 : News h₀ L s.heap news) : News h₀ L s.heap (x1 :: x2 :: x3 :: news) := ledger_sub N0 (by
    intro q hq
    simp only [List.mem_cons] at hq
    rcases hq with h | h | h | h
    · exact hm _ (by simp [h])
    · exact hm _ (by simp [h])
    · exact hm _ (by simp [h])
    · exact h)

theorem drop2 {h : Heap} {x1 x2 : Addr × Obj} (N : News h₀ L h (x1 :: x2 :: news)) : News h₀ L h news := ledger_sub N fun _ h => .tail _ (.tail _ h)
theorem drop3 {h : Heap} {x1 x2 x3 : Addr × Obj} (N : News h₀ L h (x1 :: x2 :: x3 :: news)) : News h₀ L h news := ledger_sub N fun _ h => .tail _ (.tail _ (.tail _ h))
theorem drop5 {h : Heap} {x1 x2 x3 x4 x5 : Addr × Obj} (N : News h₀ L h (x1 :: x2 :: x3 :: x4 :: x5 :: news)) : News h₀ L h news := ledger_sub N fun _ h => .tail _ (.tail _ (.tail _ (.tail _ (.tail _ h))))
theorem remove_bad {M dM S : Addr} {oS : Obj} {t1 t2 tm : Tok} {nM : Nat} {kvs : List (Int × Value)} {num : Int} {tn : Tok}
    (B : Below A₀ base outer h₀) (F : Fr h₀ L s.heap m) (X : (pre.heap_1 w.params).In h₀) (N0 : News h₀ L s.heap news) (T : Top p loose mean mg mb h₀) (hk : cs.kind = .function)
    (hm : ∀ q ∈ [(M, instObj 236 dM), (dM, mirD w t1 t2 tm S nM), (S, oS)], q ∈ news)
    (hd : dp + 240 < recursionLimit) (hu : un + 200 < cLine) (hS : oS.IsDictOf (intKind prog w) kvs) (lo : (S == sysModules) = false) (hv : (valueAt kvs num).isSome = false)
    (hraise : ∀ G h' tk e t vs, Fr h₀ L G m → RaisedS base G (envX cn cs L a ccd cl :: outer) e (.ref 51) t vs news h' → G.UpToSlots h' → E (.ref e) { s with heap := h', toks := tk }) :
    wpAny (model prog w) (ktrTop dp un gd cn cs L a ccd cl outer) (call (.ref 226) [.ref M, .int num tn]) Q E s := by
  have N := head_ledger hm N0
  have hm' : ∀ q ∈ [(M, instObj 236 dM), (dM, mirD w t1 t2 tm S nM), (S, oS)], q ∈ (M, instObj 236 dM) :: (dM, mirD w t1 t2 tm S nM) :: (S, oS) :: news := by
    intro q hq
    simp only [List.mem_cons] at hq ⊢
    rcases hq with h | h | h | h
    · exact .inl h
    · exact .inr (.inl h)
    · exact .inr (.inr (.inl h))
    · cases h
  refine wpAny_call ?_
  k_dflt ktr_enter
  k_steps
  exact hraise _ _ _ _ _ _ (by assumption) (raised_sub (by assumption) (by intro q hq; simp [hq])) (by assumption)

theorem remove_ok {M dM S : Addr} {oS : Obj} {t1 t2 tm : Tok} {nM : Nat} {kvs : List (Int × Value)} {num : Int} {tn : Tok} {v : Value} {rest : List (Addr × Obj)}
    (B : Below A₀ base outer h₀) (F : Fr h₀ L s.heap m) (X : (pre.heap_1 w.params).In h₀) (N0 : News h₀ L s.heap ((S, oS) :: rest)) (T : Top p loose mean mg mb h₀) (hk : cs.kind = .function)
    (hoff : ∀ q ∈ rest, q.1 ≠ S)
    (hm : ∀ q ∈ [(M, instObj 236 dM), (dM, mirD w t1 t2 tm S nM)], q ∈ rest)
    (hd : dp + 240 < recursionLimit) (hu : un + 200 < cLine) (hS : oS.IsDictOf (intKind prog w) kvs) (lo : (S == sysModules) = false) (hv : valueAt kvs num = some v) (hz : kvs.length ≤ 1000)
    (hret : ∀ h' tk oS' v', Fr h₀ L h' m → News h₀ L h' ((S, oS') :: rest) → oS'.IsDictOf (intKind prog w) (without kvs num) → Q v' { s with heap := h', toks := tk }) :
    wpAny (model prog w) (ktrTop dp un gd cn cs L a ccd cl outer) (call (.ref 226) [.ref M, .int num tn]) Q E s := by
  have N : News h₀ L s.heap ((M, instObj 236 dM) :: (dM, mirD w t1 t2 tm S nM) :: (S, oS) :: rest) := ledger_sub N0 (by
    intro q hq
    simp only [List.mem_cons] at hq ⊢
    rcases hq with h | h | h | h
    · right; rw [h]; exact hm _ (.head _)
    · right; rw [h]; exact hm _ (.tail _ (.head _))
    · left; exact h
    · right; exact h)
  have hMS : M ≠ S := hoff _ (hm _ (.head _))
  have hdS : dM ≠ S := hoff _ (hm _ (.tail _ (.head _)))
  have hm' : ∀ q ∈ [(M, instObj 236 dM), (dM, mirD w t1 t2 tm S nM), (S, oS)], q ∈ (M, instObj 236 dM) :: (dM, mirD w t1 t2 tm S nM) :: (S, oS) :: rest := by
    intro q hq
    simp only [List.mem_cons] at hq ⊢
    rcases hq with h | h | h | h
    · exact .inl h
    · exact .inr (.inl h)
    · exact .inr (.inr (.inl h))
    · cases h
  refine wpAny_call ?_
  k_dflt ktr_enter
  k_steps
  exact hret _ _ _ _ (by assumption) (drop2 (by assumption)) (by assumption)

theorem add_bad1 {M dM S : Addr} {oS : Obj} {t1 t2 tm : Tok} {nM : Nat} {kvs : List (Int × Value)} {num : Int} {tn : Tok} {port : Int} {tp : Tok} {way : Str} {tw : Tok}
    (B : Below A₀ base outer h₀) (F : Fr h₀ L s.heap m) (X : (pre.heap_1 w.params).In h₀) (N0 : News h₀ L s.heap news) (T : Top p loose mean mg mb h₀) (hk : cs.kind = .function)
    (hm : ∀ q ∈ [(M, instObj 236 dM), (dM, mirD w t1 t2 tm S nM), (S, oS)], q ∈ news)
    (hd : dp + 240 < recursionLimit) (hu : un + 200 < cLine) (hS : oS.IsDictOf (intKind prog w) kvs) (lo : (S == sysModules) = false) (hv : (valueAt kvs num).isSome = false)
    (hraise : ∀ G h' tk e t vs, Fr h₀ L G m → RaisedS base G (envX cn cs L a ccd cl :: outer) e (.ref 51) t vs news h' → G.UpToSlots h' → E (.ref e) { s with heap := h', toks := tk }) :
    wpAny (model prog w) (ktrTop dp un gd cn cs L a ccd cl outer) (call (.ref 212) [.ref M, .int num tn, .int port tp, .str way tw]) Q E s := by
  have N := head_ledger hm N0
  have hm' : ∀ q ∈ [(M, instObj 236 dM), (dM, mirD w t1 t2 tm S nM), (S, oS)], q ∈ (M, instObj 236 dM) :: (dM, mirD w t1 t2 tm S nM) :: (S, oS) :: news := by
    intro q hq
    simp only [List.mem_cons] at hq ⊢
    rcases hq with h | h | h | h
    · exact .inl h
    · exact .inr (.inl h)
    · exact .inr (.inr (.inl h))
    · cases h
  refine wpAny_call ?_
  k_dflt ktr_enter
  k_steps
  exact hraise _ _ _ _ _ _ (by assumption) (raised_sub (by assumption) (by intro q hq; simp [hq])) (by assumption)

theorem take_bad1 {M dM S : Addr} {oS : Obj} {t1 t2 tm : Tok} {nM : Nat} {kvs : List (Int × Value)} {num : Int} {tn : Tok} {port : Int} {tp : Tok}
    (B : Below A₀ base outer h₀) (F : Fr h₀ L s.heap m) (X : (pre.heap_1 w.params).In h₀) (N0 : News h₀ L s.heap news) (T : Top p loose mean mg mb h₀) (hk : cs.kind = .function)
    (hm : ∀ q ∈ [(M, instObj 236 dM), (dM, mirD w t1 t2 tm S nM), (S, oS)], q ∈ news)
    (hd : dp + 240 < recursionLimit) (hu : un + 200 < cLine) (hS : oS.IsDictOf (intKind prog w) kvs) (lo : (S == sysModules) = false) (hv : (valueAt kvs num).isSome = false)
    (hraise : ∀ G h' tk e t vs, Fr h₀ L G m → RaisedS base G (envX cn cs L a ccd cl :: outer) e (.ref 51) t vs news h' → G.UpToSlots h' → E (.ref e) { s with heap := h', toks := tk }) :
    wpAny (model prog w) (ktrTop dp un gd cn cs L a ccd cl outer) (call (.ref 219) [.ref M, .int num tn, .int port tp]) Q E s := by
  have N := head_ledger hm N0
  have hm' : ∀ q ∈ [(M, instObj 236 dM), (dM, mirD w t1 t2 tm S nM), (S, oS)], q ∈ (M, instObj 236 dM) :: (dM, mirD w t1 t2 tm S nM) :: (S, oS) :: news := by
    intro q hq
    simp only [List.mem_cons] at hq ⊢
    rcases hq with h | h | h | h
    · exact .inl h
    · exact .inr (.inl h)
    · exact .inr (.inr (.inl h))
    · cases h
  refine wpAny_call ?_
  k_dflt ktr_enter
  k_steps
  exact hraise _ _ _ _ _ _ (by assumption) (raised_sub (by assumption) (by intro q hq; simp [hq])) (by assumption)

theorem led6 {x1 x2 x3 x4 x5 x6 : Addr × Obj} (hm : ∀ q ∈ [x1, x2, x3, x4, x5, x6], q ∈ news) (N0 : News h₀ L s.heap news) : News h₀ L s.heap (x1 :: x2 :: x3 :: x4 :: x5 :: x6 :: news) := ledger_sub N0 fun q hq => (List.mem_append (s := [x1, x2, x3, x4, x5, x6]).mp hq).elim (hm q) id
theorem led5 {x1 x2 x3 x4 x5 y : Addr × Obj} (hm : ∀ q ∈ [x1, x2, x3, x4, x5], q ∈ y :: news) (N0 : News h₀ L s.heap (y :: news)) : News h₀ L s.heap (x1 :: x2 :: x3 :: x4 :: x5 :: y :: news) := ledger_sub N0 (by
    intro q hq
    simp only [List.mem_cons] at hq
    rcases hq with h | h | h | h | h | h | h
    · exact hm _ (by simp [h])
    · exact hm _ (by simp [h])
    · exact hm _ (by simp [h])
    · exact hm _ (by simp [h])
    · exact hm _ (by simp [h])
    · simp [h]
    · simp [h])
theorem drop6 {h : Heap} {x1 x2 x3 x4 x5 x6 : Addr × Obj} (N : News h₀ L h (x1 :: x2 :: x3 :: x4 :: x5 :: x6 :: news)) : News h₀ L h news := ledger_sub N fun _ h => .tail _ (.tail _ (.tail _ (.tail _ (.tail _ (.tail _ h)))))


end
end Mine
end

section
open PySem PySem.W PyProof.Rows PySem.Calls PyProof.Rows.LCg PyProof.Rows.LCt
set_option Elab.async false
set_option maxRecDepth 100000
set_option maxHeartbeats 8000000
namespace Mine
theorem lnM3_0 : True := by
  k_with_none
  w_top off
  k_with "pk" => first | exact pk1 | exact pk2 | exact pk3 | exact pk4 | (refine pkS ?_; k_extra "pk")
  k_with "ne" => (refine neN ?_; (try dsimp only); with_reducible first | assumption | exact .symm (by assumption) | exact pk2 (by assumption) | exact pk4 (by assumption) | (refine pkH (by assumption) ?_; k_extra "pk") | (refine pkL (by assumption) ?_; k_extra "pk") | fail)
  k_with "room" => first | exact rmA (by assumption) rfl | exact rmB (by assumption) rfl | exact rmC (by assumption) rfl | fail
  trivial
section
variable {prog : Program} {w : World} {p : Program} {loose : List Str} {mean : ExcName → Option Value} {mg mb : Str → Option Value} {dp un : Nat} {gd : Option (List Code)} {cn : Str} {cs : Scope} {a : Addr} {ccd : Value} {cl : List (Str × Addr)} {outer : List Env} {A₀ : Around} {base h₀ : Heap} {L : Addr} {m : Str → Option Value} {s : Shared} {Q E : Value → Shared → Prop} {news : List (Addr × Obj)}




theorem lnM3_1 : True := by
  k_with "exec Raise some none" => (k_here; k_dflt (refine raise_own (by rfl) ?_))
  k_with "call ref" => (k_here; (with_reducible show wpAny _ _ (call (Value.ref 51) _) _ _ _); (refine' exc_make ?BQ50 ?FQ50 ?XQ50 ?NQ50 ?TQ50 ?kQ50 ?dQ50 ?uQ50 ?_; (case BQ50 => k_asm); (case FQ50 => k_asm); (case XQ50 => k_asm); (case NQ50 => k_asm); (case TQ50 => k_asm); (case kQ50 => first | exact rfl | assumption); (case dQ50 => ktr_room); (case uQ50 => ktr_units)); intro h' tk' e' t1' d1' F' N' o1' o2' o3'; revert h' tk' e' t1' d1' F' N' o1' o2' o3'; intro _ _ _ _ _ _ _ _ _ _)
  k_with "RaisableX" => (k_here; refine ⟨_, _, _, rfl, (‹News _ _ _ ((_, excOd _ _) :: _)› _ (.head _)).1, rfl, rfl, rfl, Frag.In.keeps (by k_asm) (Fr.keep (by k_asm)), ?_⟩)
  k_with "leaving ref" => (k_here; (refine' leave_raiseZ ?BQ52 ?FQ52 ?NQ52 ?o1Q52 ?o2Q52 ?o3Q52 ?_; (case BQ52 => k_asm); (case FQ52 => k_asm); (case NQ52 => k_asm); (case o1Q52 => assumption); (case o2Q52 => assumption); (case o3Q52 => assumption)); intro h' R' U'; (try dsimp only at R' U' ⊢); revert h' R' U'; intro _ _ _)
  k_with "leaving ref" => (k_here; (refine' leave_onS ?k1Q53 ?k2Q53 ?k3Q53 ?k4Q53 ?_; (case k3Q53 => assumption); (case k1Q53 => assumption); (case k4Q53 => assumption); (case k2Q53 => assumption); k_whole; intro h' R' K' U'; (try dsimp only at R' U' ⊢); revert h' R' K' U'; intro _ _ _ _))
  k_with "compareOp NotIn int ref" => (k_here; (refine' kdg_notin (knd := PySem.intKind _ _) ?NQ54 ?hQ54 ?dQ54 ?lQ54 (intKind_is _ _ _ _) _ ?bQ54 ?_; (case NQ54 => k_asm); (case hQ54 => k_mem); (case dQ54 => assumption); (case lQ54 => assumption); (case bQ54 => exact rfl); k_whole); (try dsimp only [Bool.not_true, Bool.not_false]))
  k_with "getItem ref int" => (k_here; (with_reducible show wpAny _ _ (getItem (Value.ref _) (Value.int _ _)) _ _ _); (refine' dict_getitem (knd := PySem.intKind _ _) (intKind_is _ _ _ _) ?NQ55 ?hQ55 ?dQ55 ?lQ55 ?_; (case NQ55 => k_asm); (case hQ55 => k_mem); (case dQ55 => k_asm); (case lQ55 => assumption)))
  k_with "subscriptTail" => (k_here; k_dflt ((with_reducible show wpAny _ _ (subscriptTail _ _ (Value.ref _) (Value.int _ _)) _ _ _); refine kda_item (knd := PySem.intKind _ _) (by k_asm) (by k_mem) (by k_asm) (intKind_is _ _ _ _) (by assumption) ?_))
  k_with "call ref" => (k_here; (with_reducible show wpAny _ _ (call (Value.ref 185) _) _ _ _); (refine' is_goal_spec ?BQ57 ?FQ57 ?XQ57 ?NQ57 ?TQ57 ?kQ57 ?mQ57 ?dQ57 ?uQ57 ?SQ57 ?lQ57 ?nQ57 ?lenQ57 ?_; (case BQ57 => k_asm); (case FQ57 => k_asm); (case XQ57 => k_asm); (case NQ57 => k_asm); (case TQ57 => k_asm); (case kQ57 => first | exact rfl | assumption); (case mQ57 => assumption); (case SQ57 => assumption); (case dQ57 => ktr_room); (case uQ57 => ktr_units); (case lQ57 => assumption); (case nQ57 => assumption); (case lenQ57 => assumption)); intro h' tk' F' N'; revert h' tk' F' N'; intro _ _ _ _)
  k_with "call ref" => (k_here; (with_reducible show wpAny _ _ (call (Value.ref 205) _) _ _ _); (refine' session_ok ?BQ58 ?FQ58 ?XQ58 ?NQ58 ?TQ58 ?kQ58 ?mQ58 ?dQ58 ?uQ58 ?SQ58 ?lQ58 ?vQ58 ?_; (case BQ58 => k_asm); (case FQ58 => k_asm); (case XQ58 => k_asm); (case NQ58 => k_asm); (case TQ58 => k_asm); (case kQ58 => first | exact rfl | assumption); (case mQ58 => assumption); (case SQ58 => assumption); (case dQ58 => ktr_room); (case uQ58 => ktr_units); (case lQ58 => assumption); (case vQ58 => assumption)); intro h' tk' F' N'; revert h' tk' F' N'; intro _ _ _ _)
  k_with "call ref" => (k_here; (with_reducible show wpAny _ _ (call (Value.ref 205) _) _ _ _); (refine' session_bad ?BQ59 ?FQ59 ?XQ59 ?NQ59 ?TQ59 ?kQ59 ?mQ59 ?dQ59 ?uQ59 ?SQ59 ?lQ59 ?vQ59 ?_; (case BQ59 => k_asm); (case FQ59 => k_asm); (case XQ59 => k_asm); (case NQ59 => k_asm); (case TQ59 => k_asm); (case kQ59 => first | exact rfl | assumption); (case mQ59 => assumption); (case SQ59 => assumption); (case dQ59 => ktr_room); (case uQ59 => ktr_units); (case lQ59 => assumption); (case vQ59 => assumption)); intro G' h' tk' e' t' vs' F' R' U'; revert G' h' tk' e' t' vs' F' R' U'; intro _ _ _ _ _ _ _ _ _)
  k_with "setItem ref int" => (k_here; k_dflt (refine' kda_set (knd := PySem.intKind _ _) ?FQ60 ?NQ60 ?UQ60 ?dQ60 (intKind_is _ _ _ _) ?zQ60 ?_; (case FQ60 => k_asm); (case NQ60 => k_asm); (case UQ60 => k_updF); (case dQ60 => k_asm); (case zQ60 => rw [sizeLine_eq]; omega)); intro h' o' F' N' hd'; (try dsimp only at N'); revert h' o' F' N' hd'; intro _ _ _ _ _)
  k_with "call builtin:dict.pop" => (k_here; k_dflt (((with_reducible show wpAny _ _ (call (Value.builtin "dict.pop") [Value.ref _, Value.int _ _]) _ _ _); refine' kob_pop (knd := PySem.intKind _ _) (more := []) ?FQ61 ?NQ61 ?UQ61 ?dQ61 (intKind_is _ _ _ _) (.inl rfl) (by rfl) (PySem.F.args_dict_pop_2 _ _) ?lQ61 ?zQ61 ?_; (case FQ61 => k_asm); (case NQ61 => k_asm); (case UQ61 => k_updF); (case dQ61 => k_asm); (case lQ61 => assumption); (case zQ61 => rw [sizeLine_eq]; omega))); intro h' o' F' N' hd'; (try dsimp only at N'); revert h' o' F' N' hd'; intro _ _ _ _ _)
  k_with "getMethod ref" => (k_here; (with_reducible show wpAny _ _ (getMethod (Value.ref _) (Str.ofString "pop") _) _ _ _); k_dflt (refine kob_method (knd := PySem.intKind _ _) PySem.F.slot_dict_pop PySem.F.type_dict_pop (by k_asm) (by k_mem) (by k_asm) ?_))
  k_with "compareOp NotIn str ref" => (k_here; refine notin_ways (Frag.In.keeps (by k_asm) (Fr.keep (by k_asm))) ?_)
  trivial
theorem six_mem {M dM S : Addr} {oS : Obj} {t1 t2 tm : Tok} {nM : Nat} {σ : List Ses} {c : Ses} (hm : ∀ q ∈ (M, instObj 236 dM) :: (dM, mirD w t1 t2 tm S nM) :: (S, oS) :: ledS w σ, q ∈ news) (hc : c ∈ σ) :
    ∀ q ∈ [(M, instObj 236 dM), (dM, mirD w t1 t2 tm S nM), (S, oS), (c.inst, instObj 161 c.dict), (c.dict, sesD w c), (c.src, c.so)], q ∈ news := List.forall_mem_cons.mpr ⟨hm _ (.head _), List.forall_mem_cons.mpr ⟨hm _ (.tail _ (.head _)), List.forall_mem_cons.mpr ⟨hm _ (.tail _ (.tail _ (.head _))), List.forall_mem_cons.mpr ⟨hm _ (.tail _ (.tail _ (.tail _ (ledS_mem hc _ (.head _))))), List.forall_mem_cons.mpr ⟨hm _ (.tail _ (.tail _ (.tail _ (ledS_mem hc _ (.tail _ (.head _)))))), List.forall_mem_cons.mpr ⟨hm _ (.tail _ (.tail _ (.tail _ (ledS_mem hc _ (.tail _ (.tail _ (.head _))))))), List.forall_mem_nil _⟩⟩⟩⟩⟩⟩

theorem add_bad2 {M dM S : Addr} {oS : Obj} {t1 t2 tm : Tok} {nM : Nat} {σ : List Ses} {c : Ses} {tn : Tok} {port : Int} {tp : Tok} {way : Str} {tw : Tok}
    (B : Below A₀ base outer h₀) (F : Fr h₀ L s.heap m) (X : (pre.heap_1 w.params).In h₀) (N0 : News h₀ L s.heap news) (T : Top p loose mean mg mb h₀) (hk : cs.kind = .function)
    (hm : ∀ q ∈ (M, instObj 236 dM) :: (dM, mirD w t1 t2 tm S nM) :: (S, oS) :: ledS w σ, q ∈ news)
    (hd : dp + 240 < recursionLimit) (hu : un + 200 < cLine) (hS : oS.IsDictOf (intKind prog w) (kvM σ)) (lo : (S == sysModules) = false) (hn : (σ.map (·.num)).Nodup) (hl : σ.length ≤ 3) (ok : ∀ c ∈ σ, c.Ok prog w) (hc : c ∈ σ)
    (bad : waysL.any (· == way) = false ∨ (σ.any fun c => c.goal = port) = true)
    (hraise : ∀ G h' tk e t vs, Fr h₀ L G m → RaisedS base G (envX cn cs L a ccd cl :: outer) e (.ref 51) t vs news h' → G.UpToSlots h' → E (.ref e) { s with heap := h', toks := tk }) :
    wpAny (model prog w) (ktrTop dp un gd cn cs L a ccd cl outer) (call (.ref 212) [.ref M, .int c.num tn, .int port tp, .str way tw]) Q E s := by
  have hv : valueAt (kvM σ) c.num = some (.ref c.inst) := valueAt_ses Ses.num (fun c => Value.ref c.inst) hn hc
  obtain ⟨hso, -, -, -, -, hlo, -, hlen, -⟩ := ok c hc
  have h6 : ∀ q ∈ [(M, instObj 236 dM), (dM, mirD w t1 t2 tm S nM), (S, oS), (c.inst, instObj 161 c.dict), (c.dict, sesD w c), (c.src, c.so)], q ∈ news := six_mem hm hc
  have hmS : ∀ q ∈ [(M, instObj 236 dM), (dM, mirD w t1 t2 tm S nM), (S, oS)], q ∈ (M, instObj 236 dM) :: (dM, mirD w t1 t2 tm S nM) :: (S, oS) :: (c.inst, instObj 161 c.dict) :: (c.dict, sesD w c) :: (c.src, c.so) :: news := fun q hq => by
    simp only [List.mem_cons] at hq ⊢
    rcases hq with h | h | h | h
    · exact .inl h
    · exact .inr (.inl h)
    · exact .inr (.inr (.inl h))
    · cases h
  have hmG : ∀ q ∈ (M, instObj 236 dM) :: (dM, mirD w t1 t2 tm S nM) :: (S, oS) :: ledS w σ, q ∈ (M, instObj 236 dM) :: (dM, mirD w t1 t2 tm S nM) :: (S, oS) :: (c.inst, instObj 161 c.dict) :: (c.dict, sesD w c) :: (c.src, c.so) :: news := fun q hq => .tail _ (.tail _ (.tail _ (.tail _ (.tail _ (.tail _ (hm q hq))))))
  have N := led6 h6 N0
  refine wpAny_call ?_
  k_dflt ktr_enter
  k_steps
  all_goals first
    | exact hraise _ _ _ _ _ _ (by assumption) (raised_sub (by assumption) (by intro q hq; simp [hq])) (by assumption)
    | (exfalso; simp_all)

theorem add_ok {M dM S : Addr} {oS : Obj} {t1 t2 tm : Tok} {nM : Nat} {σ : List Ses} {c : Ses} {tn : Tok} {port : Int} {tp : Tok} {way : Str} {tw : Tok} {rest : List (Addr × Obj)}
    (B : Below A₀ base outer h₀) (F : Fr h₀ L s.heap m) (X : (pre.heap_1 w.params).In h₀) (N0 : News h₀ L s.heap ((c.src, c.so) :: rest)) (T : Top p loose mean mg mb h₀) (hk : cs.kind = .function)
    (hoff : ∀ q ∈ rest, q.1 ≠ c.src) (hoff5 : ∀ q ∈ [(M, instObj 236 dM), (dM, mirD w t1 t2 tm S nM), (S, oS), (c.inst, instObj 161 c.dict), (c.dict, sesD w c)], q.1 ≠ c.src)
    (hm : ∀ q ∈ (M, instObj 236 dM) :: (dM, mirD w t1 t2 tm S nM) :: (S, oS) :: ledS w σ, q ∈ (c.src, c.so) :: rest)
    (hd : dp + 240 < recursionLimit) (hu : un + 200 < cLine) (hS : oS.IsDictOf (intKind prog w) (kvM σ)) (lo : (S == sysModules) = false) (hn : (σ.map (·.num)).Nodup) (hl : σ.length ≤ 3) (ok : ∀ c ∈ σ, c.Ok prog w) (hc : c ∈ σ)
    (good : waysL.any (· == way) = true ∧ (σ.any fun c => c.goal = port) = false)
    (hret : ∀ h' tk so' v', Fr h₀ L h' m → News h₀ L h' ((c.src, so') :: rest) → so'.IsDictOf (intKind prog w) (stored c.kv port (.str way tw)) → Q v' { s with heap := h', toks := tk }) :
    wpAny (model prog w) (ktrTop dp un gd cn cs L a ccd cl outer) (call (.ref 212) [.ref M, .int c.num tn, .int port tp, .str way tw]) Q E s := by
  have hv : valueAt (kvM σ) c.num = some (.ref c.inst) := valueAt_ses Ses.num (fun c => Value.ref c.inst) hn hc
  obtain ⟨hso, -, -, -, -, hlo, -, hlen, -⟩ := ok c hc
  have h6 : ∀ q ∈ [(M, instObj 236 dM), (dM, mirD w t1 t2 tm S nM), (S, oS), (c.inst, instObj 161 c.dict), (c.dict, sesD w c), (c.src, c.so)], q ∈ ((c.src, c.so) :: rest) := six_mem hm hc
  have hmS : ∀ q ∈ [(M, instObj 236 dM), (dM, mirD w t1 t2 tm S nM), (S, oS)], q ∈ (M, instObj 236 dM) :: (dM, mirD w t1 t2 tm S nM) :: (S, oS) :: (c.inst, instObj 161 c.dict) :: (c.dict, sesD w c) :: (c.src, c.so) :: rest := fun q hq => by
    simp only [List.mem_cons] at hq ⊢
    rcases hq with h | h | h | h
    · exact .inl h
    · exact .inr (.inl h)
    · exact .inr (.inr (.inl h))
    · cases h
  have hmG : ∀ q ∈ (M, instObj 236 dM) :: (dM, mirD w t1 t2 tm S nM) :: (S, oS) :: ledS w σ, q ∈ (M, instObj 236 dM) :: (dM, mirD w t1 t2 tm S nM) :: (S, oS) :: (c.inst, instObj 161 c.dict) :: (c.dict, sesD w c) :: (c.src, c.so) :: rest := fun q hq => .tail _ (.tail _ (.tail _ (.tail _ (.tail _ (hm q hq)))))
  have N := led5 (fun q hq => h6 q (List.mem_append_left [_] hq)) N0
  have n1 : M ≠ c.src := hoff5 (M, instObj 236 dM) (by simp)
  have n2 : dM ≠ c.src := hoff5 (dM, mirD w t1 t2 tm S nM) (by simp)
  have n3 : S ≠ c.src := hoff5 (S, oS) (by simp)
  have n4 : c.inst ≠ c.src := hoff5 (c.inst, instObj 161 c.dict) (by simp)
  have n5 : c.dict ≠ c.src := hoff5 (c.dict, sesD w c) (by simp)
  refine wpAny_call ?_
  k_dflt ktr_enter
  k_steps
  all_goals first
    | exact hret _ _ _ _ (by assumption) (drop5 (by assumption)) (by assumption)
    | (exfalso; simp_all)

theorem take_bad2 {M dM S : Addr} {oS : Obj} {t1 t2 tm : Tok} {nM : Nat} {σ : List Ses} {c : Ses} {tn : Tok} {port : Int} {tp : Tok}
    (B : Below A₀ base outer h₀) (F : Fr h₀ L s.heap m) (X : (pre.heap_1 w.params).In h₀) (N0 : News h₀ L s.heap news) (T : Top p loose mean mg mb h₀) (hk : cs.kind = .function)
    (hm : ∀ q ∈ (M, instObj 236 dM) :: (dM, mirD w t1 t2 tm S nM) :: (S, oS) :: ledS w σ, q ∈ news)
    (hd : dp + 240 < recursionLimit) (hu : un + 200 < cLine) (hS : oS.IsDictOf (intKind prog w) (kvM σ)) (lo : (S == sysModules) = false) (hn : (σ.map (·.num)).Nodup) (hl : σ.length ≤ 3) (ok : ∀ c ∈ σ, c.Ok prog w) (hc : c ∈ σ)
    (bad : (valueAt c.kv port).isSome = false)
    (hraise : ∀ G h' tk e t vs, Fr h₀ L G m → RaisedS base G (envX cn cs L a ccd cl :: outer) e (.ref 51) t vs news h' → G.UpToSlots h' → E (.ref e) { s with heap := h', toks := tk }) :
    wpAny (model prog w) (ktrTop dp un gd cn cs L a ccd cl outer) (call (.ref 219) [.ref M, .int c.num tn, .int port tp]) Q E s := by
  have hv : valueAt (kvM σ) c.num = some (.ref c.inst) := valueAt_ses Ses.num (fun c => Value.ref c.inst) hn hc
  obtain ⟨hso, -, -, -, -, hlo, -, hlen, -⟩ := ok c hc
  have h6 : ∀ q ∈ [(M, instObj 236 dM), (dM, mirD w t1 t2 tm S nM), (S, oS), (c.inst, instObj 161 c.dict), (c.dict, sesD w c), (c.src, c.so)], q ∈ news := six_mem hm hc
  have hmS : ∀ q ∈ [(M, instObj 236 dM), (dM, mirD w t1 t2 tm S nM), (S, oS)], q ∈ (M, instObj 236 dM) :: (dM, mirD w t1 t2 tm S nM) :: (S, oS) :: (c.inst, instObj 161 c.dict) :: (c.dict, sesD w c) :: (c.src, c.so) :: news := fun q hq => by
    simp only [List.mem_cons] at hq ⊢
    rcases hq with h | h | h | h
    · exact .inl h
    · exact .inr (.inl h)
    · exact .inr (.inr (.inl h))
    · cases h
  have hmG : ∀ q ∈ (M, instObj 236 dM) :: (dM, mirD w t1 t2 tm S nM) :: (S, oS) :: ledS w σ, q ∈ (M, instObj 236 dM) :: (dM, mirD w t1 t2 tm S nM) :: (S, oS) :: (c.inst, instObj 161 c.dict) :: (c.dict, sesD w c) :: (c.src, c.so) :: news := fun q hq => .tail _ (.tail _ (.tail _ (.tail _ (.tail _ (.tail _ (hm q hq))))))
  have N := led6 h6 N0
  refine wpAny_call ?_
  k_dflt ktr_enter
  k_steps
  all_goals first
    | exact hraise _ _ _ _ _ _ (by assumption) (raised_sub (by assumption) (by intro q hq; simp [hq])) (by assumption)
    | (exfalso; simp_all)

theorem take_ok {M dM S : Addr} {oS : Obj} {t1 t2 tm : Tok} {nM : Nat} {σ : List Ses} {c : Ses} {tn : Tok} {port : Int} {tp : Tok} {vv : Value} {rest : List (Addr × Obj)}
    (B : Below A₀ base outer h₀) (F : Fr h₀ L s.heap m) (X : (pre.heap_1 w.params).In h₀) (N0 : News h₀ L s.heap ((c.src, c.so) :: rest)) (T : Top p loose mean mg mb h₀) (hk : cs.kind = .function)
    (hoff : ∀ q ∈ rest, q.1 ≠ c.src) (hoff5 : ∀ q ∈ [(M, instObj 236 dM), (dM, mirD w t1 t2 tm S nM), (S, oS), (c.inst, instObj 161 c.dict), (c.dict, sesD w c)], q.1 ≠ c.src)
    (hm : ∀ q ∈ (M, instObj 236 dM) :: (dM, mirD w t1 t2 tm S nM) :: (S, oS) :: ledS w σ, q ∈ (c.src, c.so) :: rest)
    (hd : dp + 240 < recursionLimit) (hu : un + 200 < cLine) (hS : oS.IsDictOf (intKind prog w) (kvM σ)) (lo : (S == sysModules) = false) (hn : (σ.map (·.num)).Nodup) (hl : σ.length ≤ 3) (ok : ∀ c ∈ σ, c.Ok prog w) (hc : c ∈ σ)
    (good : valueAt c.kv port = some vv)
    (hret : ∀ h' tk so' v', Fr h₀ L h' m → News h₀ L h' ((c.src, so') :: rest) → so'.IsDictOf (intKind prog w) (without c.kv port) → Q v' { s with heap := h', toks := tk }) :
    wpAny (model prog w) (ktrTop dp un gd cn cs L a ccd cl outer) (call (.ref 219) [.ref M, .int c.num tn, .int port tp]) Q E s := by
  have hv : valueAt (kvM σ) c.num = some (.ref c.inst) := valueAt_ses Ses.num (fun c => Value.ref c.inst) hn hc
  obtain ⟨hso, -, -, -, -, hlo, -, hlen, -⟩ := ok c hc
  have h6 : ∀ q ∈ [(M, instObj 236 dM), (dM, mirD w t1 t2 tm S nM), (S, oS), (c.inst, instObj 161 c.dict), (c.dict, sesD w c), (c.src, c.so)], q ∈ ((c.src, c.so) :: rest) := six_mem hm hc
  have hmS : ∀ q ∈ [(M, instObj 236 dM), (dM, mirD w t1 t2 tm S nM), (S, oS)], q ∈ (M, instObj 236 dM) :: (dM, mirD w t1 t2 tm S nM) :: (S, oS) :: (c.inst, instObj 161 c.dict) :: (c.dict, sesD w c) :: (c.src, c.so) :: rest := fun q hq => by
    simp only [List.mem_cons] at hq ⊢
    rcases hq with h | h | h | h
    · exact .inl h
    · exact .inr (.inl h)
    · exact .inr (.inr (.inl h))
    · cases h
  have hmG : ∀ q ∈ (M, instObj 236 dM) :: (dM, mirD w t1 t2 tm S nM) :: (S, oS) :: ledS w σ, q ∈ (M, instObj 236 dM) :: (dM, mirD w t1 t2 tm S nM) :: (S, oS) :: (c.inst, instObj 161 c.dict) :: (c.dict, sesD w c) :: (c.src, c.so) :: rest := fun q hq => .tail _ (.tail _ (.tail _ (.tail _ (.tail _ (hm q hq)))))
  have N := led5 (fun q hq => h6 q (List.mem_append_left [_] hq)) N0
  have n1 : M ≠ c.src := hoff5 (M, instObj 236 dM) (by simp)
  have n2 : dM ≠ c.src := hoff5 (dM, mirD w t1 t2 tm S nM) (by simp)
  have n3 : S ≠ c.src := hoff5 (S, oS) (by simp)
  have n4 : c.inst ≠ c.src := hoff5 (c.inst, instObj 161 c.dict) (by simp)
  have n5 : c.dict ≠ c.src := hoff5 (c.dict, sesD w c) (by simp)
  refine wpAny_call ?_
  k_dflt ktr_enter
  k_steps
  all_goals first
    | exact hret _ _ _ _ (by assumption) (drop5 (by assumption)) (by assumption)
    | (exfalso; simp_all)


end
end Mine
end

section
open PySem PySem.W PyProof.Rows PySem.Calls PyProof.Rows.LCg PyProof.Rows.LCt
set_option Elab.async false
set_option maxRecDepth 100000
set_option maxHeartbeats 8000000
namespace Mine
theorem lnG2_0 : True := by
  k_with_none
  w_top off
  k_with "pk" => first | exact pk1 | exact pk2 | exact pk3 | exact pk4 | (refine pkS ?_; k_extra "pk")
  k_with "ne" => (refine neN ?_; (try dsimp only); with_reducible first | assumption | exact .symm (by assumption) | exact pk2 (by assumption) | exact pk4 (by assumption) | (refine pkH (by assumption) ?_; k_extra "pk") | (refine pkL (by assumption) ?_; k_extra "pk") | fail)
  k_with "room" => first | exact rmA (by assumption) rfl | exact rmB (by assumption) rfl | exact rmC (by assumption) rfl | fail
  trivial
section
variable {prog : Program} {w : World} {p : Program} {loose : List Str} {mean : ExcName → Option Value} {mg mb : Str → Option Value} {dp un : Nat} {gd : Option (List Code)} {cn : Str} {cs : Scope} {a : Addr} {ccd : Value} {cl : List (Str × Addr)} {outer : List Env} {A₀ : Around} {base h₀ : Heap} {L : Addr} {m : Str → Option Value} {s : Shared} {Q E : Value → Shared → Prop} {news : List (Addr × Obj)}


theorem lnG2_1 : True := by
  k_with "exec Raise some none" => (k_here; k_dflt (refine raise_own (by rfl) ?_))
  k_with "call ref" => (k_here; (with_reducible show wpAny _ _ (call (Value.ref 51) _) _ _ _); (refine' exc_make ?BQ65 ?FQ65 ?XQ65 ?NQ65 ?TQ65 ?kQ65 ?dQ65 ?uQ65 ?_; (case BQ65 => k_asm); (case FQ65 => k_asm); (case XQ65 => k_asm); (case NQ65 => k_asm); (case TQ65 => k_asm); (case kQ65 => first | exact rfl | assumption); (case dQ65 => ktr_room); (case uQ65 => ktr_units)); intro h' tk' e' t1' d1' F' N' o1' o2' o3'; revert h' tk' e' t1' d1' F' N' o1' o2' o3'; intro _ _ _ _ _ _ _ _ _ _)
  k_with "RaisableX" => (k_here; refine ⟨_, _, _, rfl, (‹News _ _ _ ((_, excOd _ _) :: _)› _ (.head _)).1, rfl, rfl, rfl, Frag.In.keeps (by k_asm) (Fr.keep (by k_asm)), ?_⟩)
  k_with "leaving ref" => (k_here; (refine' leave_raiseZ ?BQ67 ?FQ67 ?NQ67 ?o1Q67 ?o2Q67 ?o3Q67 ?_; (case BQ67 => k_asm); (case FQ67 => k_asm); (case NQ67 => k_asm); (case o1Q67 => assumption); (case o2Q67 => assumption); (case o3Q67 => assumption)); intro h' R' U'; (try dsimp only at R' U' ⊢); revert h' R' U'; intro _ _ _)
  k_with "leaving ref" => (k_here; (refine' leave_onS ?k1Q68 ?k2Q68 ?k3Q68 ?k4Q68 ?_; (case k3Q68 => assumption); (case k1Q68 => assumption); (case k4Q68 => assumption); (case k2Q68 => assumption); k_whole; intro h' R' K' U'; (try dsimp only at R' U' ⊢); revert h' R' K' U'; intro _ _ _ _))
  trivial


theorem lnG2_2 : True := by
  k_with "eval ListComp" => (k_here; (with_reducible show wpAny _ _ (eval (PySem.Expr.ListComp _ [_] _ _) _) _ _ _); k_dflt (refine comp_dU (PySem.intKind _ _) (by k_asm) (by with_unfolding_all rfl) (by decide) (by rfl) (by decide) (by rfl) ?_))
  k_with "eval ListComp" => (k_here; (with_reducible show wpAny _ _ (eval (PySem.Expr.ListComp _ [_, _] _ _) _) _ _ _); k_dflt (refine comp_dd (by k_asm) (by with_unfolding_all rfl) (by decide) (by rfl) (by decide) (by rfl) (by rfl) ?_))
  k_with "getItem ref int" => (k_here; (with_reducible show wpAny _ _ (getItem (Value.ref _) (Value.int _ _)) _ _ _); (refine' dict_getitem (knd := PySem.intKind _ _) (intKind_is _ _ _ _) ?NQ71 ?hQ71 ?dQ71 ?lQ71 ?_; (case NQ71 => k_asm); (case hQ71 => k_mem); (case dQ71 => k_asm); (case lQ71 => exact valueAt_ses Ses.num (fun c => Value.ref c.lst) (by assumption) (by assumption))))
  k_with "subscriptTail" => (k_here; k_dflt ((with_reducible show wpAny _ _ (subscriptTail _ _ (Value.ref _) (Value.int _ _)) _ _ _); refine kda_item (knd := PySem.intKind _ _) (by k_asm) (by k_mem) (by k_asm) (intKind_is _ _ _ _) (by exact valueAt_ses Ses.num (fun c => Value.ref c.lst) (by assumption) (by assumption)) ?_))
  k_with "subscriptTail" => (k_here; (with_reducible show wpAny _ _ (subscriptTail _ _ (Value.ref _) (Value.int _ _)) _ _ _); (with_unfolding_all refine' item_written (vs := [_, _, _]) ?k1Q73 ?k2Q73 ?k3Q73 ?k4Q73 ?k5Q73 ?_ ?k6Q73; (case k1Q73 => k_asm); (case k2Q73 => k_mem); (case k3Q73 => decide); (case k4Q73 => decide); (case k5Q73 => rfl); (case k6Q73 => with_unfolding_all rfl); k_whole))
  trivial
theorem own_turn {w : World} {a1 a2 a3 a4 a5 : Addr × Obj} {h : Heap} {σ : List Ses} {c : Ses} (hc : c ∈ σ) (hm : ∀ q ∈ ledS w σ, q ∈ news) (N : News h₀ L h (a1 :: a2 :: a3 :: a4 :: a5 :: news)) :
    News h₀ L h (a1 :: a2 :: a3 :: a4 :: a5 :: (c.lst, listOf #[.int c.goal c.gt2, c.vl2, .ref c.src2] c.n2) :: (c.src2, c.so2) :: news) := ledger_sub N fun q hq => (List.mem_append (s := [a1, a2, a3, a4, a5]).mp hq).elim (fun z => List.mem_append_left (as := [a1, a2, a3, a4, a5]) news z) fun z => List.mem_append_right [a1, a2, a3, a4, a5] ((List.forall_mem_cons.mpr ⟨hm _ (ledS_mem hc _ (.tail _ (.tail _ (.tail _ (.head _))))), List.forall_mem_cons.mpr ⟨hm _ (ledS_mem hc _ (.tail _ (.tail _ (.tail _ (.tail _ (.head _)))))), fun _ h => h⟩⟩ : ∀ q ∈ _, q ∈ news) q z)

theorem off1_mem {D : Addr} : ∀ {l : List (Addr × Obj)}, Off1 D l → ∀ p ∈ l, p.1 ≠ D
  | [], _, _, h => nomatch h
  | _ :: _, x, p, h => by
    rcases List.mem_cons.mp h with rfl | h
    · exact x.1
    · exact off1_mem x.2 p h

theorem goals_spec {O : Addr} {oO : Obj} {σ : List Ses}
    (B : Below A₀ base outer h₀) (F : Fr h₀ L s.heap m) (X : (pre.heap_1 w.params).In h₀) (N0 : News h₀ L s.heap news) (T : Top p loose mean mg mb h₀) (hk : cs.kind = .function)
    (hm : ∀ q ∈ (O, oO) :: ledS w σ, q ∈ news)
    (hd : dp + 210 < recursionLimit) (hu : un + 80 < cLine) (hO : oO.IsDictOf (intKind prog w) (kvO σ)) (lo : (O == sysModules) = false) (hn : (σ.map (·.num)).Nodup) (hl : σ.length ≤ 3)
    (hret : ∀ h' tk' D ys, Fr h₀ L h' m → News h₀ L h' ((D, LCg.lst ys) :: news) → IntsAre ys (σ.map (·.goal)) → (∀ q ∈ news, q.1 ≠ D) → Q (.ref D) { s with heap := h', toks := tk' }) :
    wpAny (model prog w) (ktrTop dp un gd cn cs L a ccd cl outer) (call (.ref 278) [.ref O]) Q E s := by
  have N : News h₀ L s.heap ((O, oO) :: news) := ledger_sub N0 (fun q hq => by rcases List.mem_cons.mp hq with rfl | hq; (· exact hm _ (.head _)); exact hq)
  refine wpAny_call ?_
  k_dflt (refine' code_defC ?k1Q74 ?k2Q74 ?k3Q74 ?k4Q74 ?k5Q74 ?kAQ74 ?kFQ74 ?kKQ74 ?k6Q74 ?k7Q74 ?k8Q74 ?k9Q74 ?kBQ74 ?kDQ74 ?_ ?c2Q74 ?c3Q74 ?c4Q74; (case kAQ74 => exact rfl); (case kFQ74 => exact rfl); (case kKQ74 => assumption); (case k1Q74 => k_asm); (case k2Q74 => k_asm); (case k3Q74 => k_asm); (case k4Q74 => k_asm); (case k5Q74 => k_asm); (case k6Q74 => k_is); (case k7Q74 => k_is); (case k8Q74 => ktr_room); (case k9Q74 => exact BindsTo.of_eq rfl); (case kBQ74 => exact rfl); (case kDQ74 => decide +kernel); (case c2Q74 => exact rfl); (case c3Q74 => exact rfl); (case c4Q74 => exact rfl); k_whole; intro g' L' h' tk' cells' FG' F' N' Y' B' X' T' l1; (try k_lt l1); k_cells Y'; (try simp only [List.cons_append, List.nil_append] at N'); (try dsimp only); (try k_lift B'); (try k_fold))
  k_steps
  refine dsrcU_map (σ := σ) (key := (·.num)) (val := fun c => .ref c.lst) (g := (·.goal)) (by rfl) (by assumption) (by assumption) (by k_mem) hO lo (by rw [PySem.sizeLine_eq]; omega) ?_ ?_
  · intro c t I oI C oC D m₂ ys h tk E' hc hC hx F2 N2 off ne
    unfold TurnEl
    have N3 := own_turn hc (fun q hq => hm q (.tail _ hq)) N2
    k_steps
    exact ⟨_, _, _, rfl, by assumption, by assumption, off, by k_mem, rfl, _, rfl⟩
  · intro ys D h tk hy F3 N3 o3
    dsimp only
    k_steps
    refine hret _ _ _ _ (by assumption) (ledger_sub (by assumption) ?_) hy ?_
    · intro q hq
      simp only [List.mem_cons] at hq ⊢
      rcases hq with h | h <;> simp [h]
    · exact fun q hq => off1_mem o3 q (by simp [hq])

theorem sources_spec {O : Addr} {oO : Obj} {σ : List Ses}
    (B : Below A₀ base outer h₀) (F : Fr h₀ L s.heap m) (X : (pre.heap_1 w.params).In h₀) (N0 : News h₀ L s.heap news) (T : Top p loose mean mg mb h₀) (hk : cs.kind = .function)
    (hm : ∀ q ∈ (O, oO) :: ledS w σ, q ∈ news)
    (hd : dp + 210 < recursionLimit) (hu : un + 80 < cLine) (hO : oO.IsDictOf (intKind prog w) (kvO σ)) (lo : (O == sysModules) = false) (hn : (σ.map (·.num)).Nodup) (hl : σ.length ≤ 3) (ok : ∀ c ∈ σ, c.Ok prog w)
    (hret : ∀ h' tk' D ys, Fr h₀ L h' m → News h₀ L h' ((D, LCg.lst ys) :: news) → IntsAre ys (σ.flatMap fun c => c.kv2.map (·.1)) → (∀ q ∈ news, q.1 ≠ D) → Q (.ref D) { s with heap := h', toks := tk' }) :
    wpAny (model prog w) (ktrTop dp un gd cn cs L a ccd cl outer) (call (.ref 283) [.ref O]) Q E s := by
  have N : News h₀ L s.heap ((O, oO) :: news) := ledger_sub N0 (fun q hq => by rcases List.mem_cons.mp hq with rfl | hq; (· exact hm _ (.head _)); exact hq)
  refine wpAny_call ?_
  k_dflt (refine' code_defC ?k1Q75 ?k2Q75 ?k3Q75 ?k4Q75 ?k5Q75 ?kAQ75 ?kFQ75 ?kKQ75 ?k6Q75 ?k7Q75 ?k8Q75 ?k9Q75 ?kBQ75 ?kDQ75 ?_ ?c2Q75 ?c3Q75 ?c4Q75; (case kAQ75 => exact rfl); (case kFQ75 => exact rfl); (case kKQ75 => assumption); (case k1Q75 => k_asm); (case k2Q75 => k_asm); (case k3Q75 => k_asm); (case k4Q75 => k_asm); (case k5Q75 => k_asm); (case k6Q75 => k_is); (case k7Q75 => k_is); (case k8Q75 => ktr_room); (case k9Q75 => exact BindsTo.of_eq rfl); (case kBQ75 => exact rfl); (case kDQ75 => decide +kernel); (case c2Q75 => exact rfl); (case c3Q75 => exact rfl); (case c4Q75 => exact rfl); k_whole; intro g' L' h' tk' cells' FG' F' N' Y' B' X' T' l1; (try k_lt l1); k_cells Y'; (try simp only [List.cons_append, List.nil_append] at N'); (try dsimp only); (try k_lift B'); (try k_fold))
  k_steps
  refine ⟨Ses, σ, (·.num), (fun c => .ref c.lst), (·.src2), (·.so2), (·.kv2), O, oO, _, rfl, rfl, by assumption, by assumption, by k_mem, hO, lo, by omega, ?_, ?_, ?_⟩
  · intro c hc
    obtain ⟨_, hso2, -, -, -, -, hlo2, -, hlen2⟩ := ok c hc
    exact ⟨.tail _ (.tail _ (hm _ (.tail _ (ledS_mem hc _ (by simp [Ses.led]))))), hso2, hlo2, hlen2⟩
  · intro c t I oI C oC D m₂ ys h tk E' hc hC hx F2 N2 off ne
    unfold InnerIs
    have N3 := own_turn hc (fun q hq => hm q (.tail _ hq)) N2
    k_steps
  · intro ys D h tk hy F3 N3 o3
    k_steps
    refine hret _ _ _ _ (by assumption) (ledger_sub (by assumption) ?_) hy ?_
    · intro q hq
      simp only [List.mem_cons] at hq ⊢
      rcases hq with h | h <;> simp [h]
    · exact fun q hq => off1_mem o3 q (by simp [hq])

end
end Mine
end

section
open PySem PySem.W PyProof.Rows PySem.Calls PyProof.Rows.LCg PyProof.Rows.LCt
set_option Elab.async false
set_option maxRecDepth 100000
set_option maxHeartbeats 8000000
namespace Mine
theorem lnK1_0 : True := by
  k_with_none
  w_top off
  k_with "pk" => first | exact pk1 | exact pk2 | exact pk3 | exact pk4 | (refine pkS ?_; k_extra "pk")
  k_with "ne" => (refine neN ?_; (try dsimp only); with_reducible first | assumption | exact .symm (by assumption) | exact pk2 (by assumption) | exact pk4 (by assumption) | (refine pkH (by assumption) ?_; k_extra "pk") | (refine pkL (by assumption) ?_; k_extra "pk") | fail)
  k_with "room" => first | exact rmA (by assumption) rfl | exact rmB (by assumption) rfl | exact rmC (by assumption) rfl | fail
  trivial
section
variable {prog : Program} {w : World} {p : Program} {loose : List Str} {mean : ExcName → Option Value} {mg mb : Str → Option Value} {dp un : Nat} {gd : Option (List Code)} {cn : Str} {cs : Scope} {a : Addr} {ccd : Value} {cl : List (Str × Addr)} {outer : List Env} {A₀ : Around} {base h₀ : Heap} {L : Addr} {m : Str → Option Value} {s : Shared} {Q E : Value → Shared → Prop} {news : List (Addr × Obj)}



theorem lnK1_1 : True := by
  k_with "exec Raise some none" => (k_here; k_dflt (refine raise_own (by rfl) ?_))
  k_with "call ref" => (k_here; (with_reducible show wpAny _ _ (call (Value.ref 51) _) _ _ _); (refine' exc_make ?BQ77 ?FQ77 ?XQ77 ?NQ77 ?TQ77 ?kQ77 ?dQ77 ?uQ77 ?_; (case BQ77 => k_asm); (case FQ77 => k_asm); (case XQ77 => k_asm); (case NQ77 => k_asm); (case TQ77 => k_asm); (case kQ77 => first | exact rfl | assumption); (case dQ77 => ktr_room); (case uQ77 => ktr_units)); intro h' tk' e' t1' d1' F' N' o1' o2' o3'; revert h' tk' e' t1' d1' F' N' o1' o2' o3'; intro _ _ _ _ _ _ _ _ _ _)
  k_with "RaisableX" => (k_here; refine ⟨_, _, _, rfl, (‹News _ _ _ ((_, excOd _ _) :: _)› _ (.head _)).1, rfl, rfl, rfl, Frag.In.keeps (by k_asm) (Fr.keep (by k_asm)), ?_⟩)
  k_with "leaving ref" => (k_here; (refine' leave_raiseZ ?BQ79 ?FQ79 ?NQ79 ?o1Q79 ?o2Q79 ?o3Q79 ?_; (case BQ79 => k_asm); (case FQ79 => k_asm); (case NQ79 => k_asm); (case o1Q79 => assumption); (case o2Q79 => assumption); (case o3Q79 => assumption)); intro h' R' U'; (try dsimp only at R' U' ⊢); revert h' R' U'; intro _ _ _)
  k_with "leaving ref" => (k_here; (refine' leave_onS ?k1Q80 ?k2Q80 ?k3Q80 ?k4Q80 ?_; (case k3Q80 => assumption); (case k1Q80 => assumption); (case k4Q80 => assumption); (case k2Q80 => assumption); k_whole; intro h' R' K' U'; (try dsimp only at R' U' ⊢); revert h' R' K' U'; intro _ _ _ _))
  k_with "call builtin:dict.get" => (k_here; k_dflt (refine kdg_get1 (knd := PySem.intKind _ _) (by k_asm) (by k_mem) (by assumption) (by assumption) (intKind_is _ _ _ _) _ (by assumption) ?_); (try dsimp only [Option.getD]))
  k_with "getMethod ref" => (k_here; (with_reducible show wpAny _ _ (getMethod (Value.ref _) (Str.ofString "get") _) _ _ _); k_dflt (refine kdg_method (knd := PySem.intKind _ _) (by k_asm) (by k_mem) (by assumption) ?_))
  trivial
theorem drop4 {h : Heap} {x1 x2 x3 x4 : Addr × Obj} (N : News h₀ L h (x1 :: x2 :: x3 :: x4 :: news)) : News h₀ L h news := ledger_sub N fun _ h => .tail _ (.tail _ (.tail _ (.tail _ h)))
theorem in_none {A : Around} {a : Addr} {n : Nat} {x y : Str} {tx ty : Tok} {Q : Value → Shared → Prop} (N : News h₀ L s.heap news) (hp : (a, ({ cls := .type "tuple", data := .seq #[.str x tx, .str y ty] n } : Obj)) ∈ news) (h : Q (.bool false) s) :
    wpAny (model prog w) A (compareOp .In .none (.ref a)) Q E s :=
  SeqAt.in_tupleAt (fun _ => false) (⟨_, (N _ hp).1, rfl, _, rfl⟩ : s.heap.IsTuple a #[.str x tx, .str y ty]) (fun v hv => by
    simp only [List.mem_toArray, Array.mem_toList_iff, Array.mem_def, List.mem_cons, List.not_mem_nil, or_false] at hv
    rcases hv with rfl | rfl
    · exact SeqAt.EqAt.str_none _ _
    · exact SeqAt.EqAt.str_none _ _) (by simpa using h)

theorem lnK1_2 : True := by
  k_with "compareOp In none ref" => (k_here; k_dflt (refine in_none (by k_asm) (by k_mem) ?_))
  trivial
theorem takes_some {i d sr : Addr} {so : Obj} {goal : Int} {gt s1 s2 s3 : Tok} {vl : Value} {n1 : Nat} {kv : List (Int × Value)} {port : Int} {tp : Tok} {way : Str} {tw : Tok} {x : Str} {tx : Tok}
    (B : Below A₀ base outer h₀) (F : Fr h₀ L s.heap m) (X : (pre.heap_1 w.params).In h₀) (N : News h₀ L s.heap ((i, instObj 161 d) :: (d, dictOf [⟨PyData.keyHash w.params (Str.ofString "goal"), .str (Str.ofString "goal") s1, .int goal gt⟩, ⟨PyData.keyHash w.params (Str.ofString "vlan"), .str (Str.ofString "vlan") s2, vl⟩, ⟨PyData.keyHash w.params (Str.ofString "sources"), .str (Str.ofString "sources") s3, .ref sr⟩] n1) :: (sr, so) :: news)) (T : Top p loose mean mg mb h₀) (hk : cs.kind = .function)
    (hd : dp + 210 < recursionLimit) (hu : un + 80 < cLine) (hS : so.IsDictOf (intKind prog w) kv) (lo : (sr == sysModules) = false) (hv : valueAt kv port = some (.str x tx))
    (hret : ∀ h' tk', Fr h₀ L h' m → News h₀ L h' news → Q (.bool ([way, Str.ofString "both"].any (· == x))) { s with heap := h', toks := tk' }) :
    wpAny (model prog w) (ktrTop dp un gd cn cs L a ccd cl outer) (call (.ref 151) [.ref i, .int port tp, .str way tw]) Q E s := by
  refine wpAny_call ?_
  k_dflt ktr_enter
  k_steps
  exact hret _ _ (by assumption) (drop4 (by assumption))

theorem takes_none {i d sr : Addr} {so : Obj} {goal : Int} {gt s1 s2 s3 : Tok} {vl : Value} {n1 : Nat} {kv : List (Int × Value)} {port : Int} {tp : Tok} {way : Str} {tw : Tok}
    (B : Below A₀ base outer h₀) (F : Fr h₀ L s.heap m) (X : (pre.heap_1 w.params).In h₀) (N : News h₀ L s.heap ((i, instObj 161 d) :: (d, dictOf [⟨PyData.keyHash w.params (Str.ofString "goal"), .str (Str.ofString "goal") s1, .int goal gt⟩, ⟨PyData.keyHash w.params (Str.ofString "vlan"), .str (Str.ofString "vlan") s2, vl⟩, ⟨PyData.keyHash w.params (Str.ofString "sources"), .str (Str.ofString "sources") s3, .ref sr⟩] n1) :: (sr, so) :: news)) (T : Top p loose mean mg mb h₀) (hk : cs.kind = .function)
    (hd : dp + 210 < recursionLimit) (hu : un + 80 < cLine) (hS : so.IsDictOf (intKind prog w) kv) (lo : (sr == sysModules) = false) (hv : valueAt kv port = none)
    (hret : ∀ h' tk', Fr h₀ L h' m → News h₀ L h' news → Q (.bool false) { s with heap := h', toks := tk' }) :
    wpAny (model prog w) (ktrTop dp un gd cn cs L a ccd cl outer) (call (.ref 151) [.ref i, .int port tp, .str way tw]) Q E s := by
  refine wpAny_call ?_
  k_dflt ktr_enter
  k_steps
  exact hret _ _ (by assumption) (drop4 (by assumption))

end
end Mine
end

section
open PySem PySem.W PyProof.Rows PySem.Calls
set_option Elab.async false
set_option maxRecDepth 100000
set_option maxHeartbeats 4000000
namespace Mine
theorem lnE1_0 : True := by
  k_with_none
  w_top off
  k_with "pk" => first | exact pk1 | exact pk2 | exact pk3 | exact pk4 | (refine pkS ?_; k_extra "pk")
  k_with "ne" => (refine neN ?_; (try dsimp only); with_reducible first | assumption | exact .symm (by assumption) | exact pk2 (by assumption) | exact pk4 (by assumption) | (refine pkH (by assumption) ?_; k_extra "pk") | (refine pkL (by assumption) ?_; k_extra "pk") | fail)
  k_with "room" => first | exact rmA (by assumption) rfl | exact rmB (by assumption) rfl | exact rmC (by assumption) rfl | fail
  trivial

/-- data of a frame's parts: a leaf is the value itself, ints and bools by what they are -/
inductive Dat where
  | leaf (v : Value)
  | int (i : Int)
  | bool (b : Bool)
  | list (xs : List Dat)
  | tuple (xs : List Dat)

inductive Vw (news : List (Addr × Obj)) : Nat → Value → Dat → Prop
  | leaf (v) : (∀ a, v ≠ .ref a) → Vw news 0 v (.leaf v)
  | int (i t) : Vw news 0 (.int i t) (.int i)
  | bool (b) : Vw news 0 (.bool b) (.bool b)
  | list {a o vs n xs k} : (a, o) ∈ news → o.cls = .type "list" → o.data = .seq vs n → vs.size = xs.length → (∀ (j : Nat) v x, vs[j]? = some v → xs[j]? = some x → Vw news k v x) → Vw news (k + 1) (.ref a) (.list xs)
  | tuple {a o vs n xs k} : (a, o) ∈ news → o.cls = .type "tuple" → o.data = .seq vs n → vs.size = xs.length → (∀ (j : Nat) v x, vs[j]? = some v → xs[j]? = some x → Vw news k v x) → Vw news (k + 1) (.ref a) (.tuple xs)
  | up {v x k} : Vw news k v x → Vw news (k + 1) v x

theorem Vw.mono {news news' : List (Addr × Obj)} (hs : ∀ q ∈ news, q ∈ news') {k : Nat} {v : Value} {d : Dat} (h : Vw news k v d) : Vw news' k v d := by
  induction h with
  | leaf v hv => exact .leaf v hv
  | int i t => exact .int i t
  | bool b => exact .bool b
  | list hm hc hd hsz _ ih => exact .list (hs _ hm) hc hd hsz ih
  | tuple hm hc hd hsz _ ih => exact .tuple (hs _ hm) hc hd hsz ih
  | up _ ih => exact .up ih

theorem Vw.le {news : List (Addr × Obj)} {k k' : Nat} {v : Value} {d : Dat} (h : Vw news k v d) (hk : k ≤ k') : Vw news k' v d := by
  induction hk with
  | refl => exact h
  | step _ ih => exact .up ih

section
variable {s : Shared} {h₀ : Heap} {L : Addr} {news : List (Addr × Obj)}
theorem vw_eq (N : News h₀ L s.heap news) : ∀ (k : Nat) {A : Around} {v v' : Value} {d : Dat} {k' : Nat}, Vw news k v d → Vw news k' v' d → A.units + k + 1 < cLine → SeqAt.EqAt A s v v' true := by
  intro k A v v' d k' h
  induction h generalizing A v' k' with
  | leaf v hv =>
    intro h' _
    generalize hd : Dat.leaf v = d at h'
    induction h' with
    | leaf v' _ => cases hd; exact SeqAt.EqAt.same _
    | up _ ih => exact ih hd
    | _ => cases hd
  | int i t =>
    intro h' _
    generalize hd : Dat.int i = d at h'
    induction h' with
    | int i' t' => cases hd; have := SeqAt.EqAt.int_int (A := A) (s := s) i t i t'; rwa [beq_self_eq_true] at this
    | up _ ih => exact ih hd
    | _ => cases hd
  | bool b =>
    intro h' _
    generalize hd : Dat.bool b = d at h'
    induction h' with
    | bool b' => cases hd; exact SeqAt.EqAt.same _
    | up _ ih => exact ih hd
    | _ => cases hd
  | @list a o vs n xs k hm hc hdt hsz hv ih =>
    intro h' hu
    generalize hd : Dat.list xs = d at h'
    induction h' with
    | @list a' o' vs' n' xs' k' hm' hc' hdt' hsz' hv' _ =>
      cases hd
      by_cases e : a = a'
      · subst e; exact SeqAt.EqAt.same _
      · refine SeqAt.EqAt.of_refs e ?_
        have hl : s.heap.IsList a vs := ⟨o, (N _ hm).1, hc, n, hdt⟩
        have hl' : s.heap.IsList a' vs' := ⟨o', (N _ hm').1, hc', n', hdt'⟩
        have := SeqAt.RcAt.lists (A := A) (s := s) (e := fun _ => true) hl hl' (by rw [hsz, hsz']) (by omega) (fun j h1 h2 => ih j _ _ (Array.getElem?_eq_getElem h1) (List.getElem?_eq_getElem (by omega)) (hv' j _ _ (Array.getElem?_eq_getElem h2) (List.getElem?_eq_getElem (by omega))) (by show A.units + 1 + k + 1 < cLine; omega))
        have e1 : ∀ n, (List.range n).all (fun _ => true) = true := fun n => List.all_eq_true.mpr fun _ _ => rfl
        rwa [e1] at this
    | up _ ih => exact ih hd
    | _ => cases hd
  | @tuple a o vs n xs k hm hc hdt hsz hv ih =>
    intro h' hu
    generalize hd : Dat.tuple xs = d at h'
    induction h' with
    | @tuple a' o' vs' n' xs' k' hm' hc' hdt' hsz' hv' _ =>
      cases hd
      by_cases e : a = a'
      · subst e; exact SeqAt.EqAt.same _
      · refine SeqAt.EqAt.of_refs e ?_
        have hl : s.heap.IsTuple a vs := ⟨o, (N _ hm).1, hc, n, hdt⟩
        have hl' : s.heap.IsTuple a' vs' := ⟨o', (N _ hm').1, hc', n', hdt'⟩
        have := SeqAt.RcAt.tuples (A := A) (s := s) (e := fun _ => true) hl hl' (by omega) (fun j h1 h2 => ih j _ _ (Array.getElem?_eq_getElem h1) (List.getElem?_eq_getElem (by omega)) (hv' j _ _ (Array.getElem?_eq_getElem h2) (List.getElem?_eq_getElem (by omega))) (by show A.units + 1 + k + 1 < cLine; omega))
        have e1 : ∀ n, (List.range n).all (fun _ => true) = true := fun n => List.all_eq_true.mpr fun _ _ => rfl
        rwa [e1, hsz, hsz', beq_self_eq_true, Bool.true_and] at this
    | up _ ih => exact ih hd
    | _ => cases hd
  | up _ ih => intro h' hu; exact ih h' (by omega)

theorem vw_list {news : List (Addr × Obj)} {k : Nat} {a : Addr} {xs : List Dat} (h : Vw news k (.ref a) (.list xs)) : ∃ o vs n k', k' + 1 ≤ k ∧ (a, o) ∈ news ∧ o.cls = .type "list" ∧ o.data = .seq vs n ∧ vs.size = xs.length ∧ ∀ (j : Nat) v x, vs[j]? = some v → xs[j]? = some x → Vw news k' v x := by
  generalize hv : Value.ref a = v at h
  generalize hd : Dat.list xs = d at h
  induction h with
  | @list a' o vs n xs' k hm hc hdt hsz hvv _ => cases hv; cases hd; exact ⟨o, vs, n, k, Nat.le_refl _, hm, hc, hdt, hsz, hvv⟩
  | up _ ih => obtain ⟨o, vs, n, k', h1, h2⟩ := ih hv hd; exact ⟨o, vs, n, k', Nat.le_succ_of_le h1, h2⟩
  | _ => cases hd

variable {prog : Program} {w : World} {A : Around} {E : Value → Shared → Prop}
theorem vw_ne {k k' : Nat} {a b : Addr} {xs : List Dat} {Q : Value → Shared → Prop} (N : News h₀ L s.heap news) (h : Vw news k (.ref a) (.list xs)) (h' : Vw news k' (.ref b) (.list xs)) (hu : A.units + k + 2 < cLine) (hQ : Q (.bool false) s) :
    wpAny (model prog w) A (compareOp .NotEq (.ref a) (.ref b)) Q E s := by
  obtain ⟨o, vs, n, j, hj, hm, hc, hd, hsz, hv⟩ := vw_list h
  obtain ⟨o', vs', n', j', hj', hm', hc', hd', hsz', hv'⟩ := vw_list h'
  have hl : s.heap.IsList a vs := ⟨o, (N _ hm).1, hc, n, hd⟩
  have hl' : s.heap.IsList b vs' := ⟨o', (N _ hm').1, hc', n', hd'⟩
  have := SeqAt.RcNeAt.lists (A := A) (s := s) (e := fun _ => true) hl hl' (by rw [hsz, hsz']) (by omega) (fun i h1 h2 => vw_eq N j (hv i _ _ (Array.getElem?_eq_getElem h1) (List.getElem?_eq_getElem (by omega))) (hv' i _ _ (Array.getElem?_eq_getElem h2) (List.getElem?_eq_getElem (by omega))) (by show A.units + 1 + j + 1 < cLine; omega))
  have e1 : ∀ n, (List.range n).all (fun _ => true) = true := fun n => List.all_eq_true.mpr fun _ _ => rfl
  rw [e1] at this
  exact this prog w E Q hQ
end
end Mine
end

section
open PySem PySem.W PyProof.Rows PySem.Calls
set_option Elab.async false
set_option maxRecDepth 100000
set_option maxHeartbeats 4000000
namespace Mine
theorem lnY1_0 : True := by
  k_with_none
  w_top off
  k_with "pk" => first | exact pk1 | exact pk2 | exact pk3 | exact pk4 | (refine pkS ?_; k_extra "pk")
  k_with "ne" => (refine neN ?_; (try dsimp only); with_reducible first | assumption | exact .symm (by assumption) | exact pk2 (by assumption) | exact pk4 (by assumption) | (refine pkH (by assumption) ?_; k_extra "pk") | (refine pkL (by assumption) ?_; k_extra "pk") | fail)
  k_with "room" => first | exact rmA (by assumption) rfl | exact rmB (by assumption) rfl | exact rmC (by assumption) rfl | fail
  trivial
section
variable {prog : Program} {w : World} {A : Around} {E : Value → Shared → Prop} {s : Shared}
theorem bytes_special : typeLookup (.type "bytes") "__bytes__" = pure (some (.builtin "bytes.__bytes__")) := by rw [typeLookup_type, builtinLookup_eq_fast]; kernel_rfl
theorem bytes_new {b : Array UInt8} {t : Tok} {Q : Value → Shared → Prop} (hQ : Q (.bytes b t) s) :
    codeAny (model prog w) A (.call (.builtin "bytes.__new__") ⟨[.type "bytes", .bytes b t], []⟩) (wants Q E) s := by
  refine codeAny_of_tree ?_
  show wpAny _ A.in1 (do checkBuiltinCall "bytes.__new__" ⟨[.type "bytes", .bytes b t], []⟩; again (.builtin "bytes.__new__" ⟨[.type "bytes", .bytes b t], []⟩)) _ _ s
  refine wpAny_bind (wpAny_of_eq (F.bm_newCall _) (wpAny_pure ⟨plainId_quiet F.bm_plain _, codeAny_builtin F.bm_entry ?_⟩))
  rw [Around.under_plainId F.bm_plain _]
  have hT : s.TypeIs (.bytes b t) "bytes" := PySem.W.typeIs_bytes _ _ _
  unfold Builtin.«bytes.__new__»
  refine wpAny_bind (wpAny_of_eq (a := true) rfl ?_)
  refine bm_if_false rfl ?_
  refine wpAny_bind (wpAny_of_eq F.bm_sub ?_)
  refine bm_if_false rfl ?_
  refine wpAny_bind (wpAny_of_eq (F.bm_bind _) ?_)
  refine wpAny_bind (wpAny_of_eq (a := ()) rfl ?_)
  refine wpAny_bind (wpAny_of_eq (a := ()) rfl ?_)
  refine bm_if_false rfl ?_
  refine wpAny_bind (wpAny_specialOf hT bytes_special ?_)
  dsimp only
  refine wpAny_bind (wpAny_rule ?_)
  refine wpAny_bind (wpAny_of_eq (a := Value.type "bytes") rfl ?_)
  refine bm_if_true rfl ?_
  exact wpAny_pure hQ
theorem call_bytes_same {b : Array UInt8} {t : Tok} {Q : Value → Shared → Prop} (hQ : Q (.bytes b t) s) : wpAny (model prog w) A (call (.type "bytes") [.bytes b t]) Q E s := by
  refine callType_codes (Q₁ := fun obj s₁ => s₁.TypeIs obj "bytes" ∧ Q obj s₁) F.bm_called (F.bm_typeCall _) F.entry_object_init
    (bytes_new ⟨PySem.W.typeIs_bytes _ _ _, hQ⟩) fun obj s₁ h₁ => ?_
  exact ⟨h₁.1, F.args_object_init_2 obj _, object_init_meets F.bm_called.init.lookup F.bm_called.made (by decide) prog w A.in1 _ s₁ ⟨h₁.1, rfl, h₁.2⟩⟩
end
end Mine
end

section
open PySem PySem.W PyProof.Rows PySem.Calls PyProof.Rows.LCg PyProof.Rows.LCt
set_option Elab.async false
set_option maxRecDepth 100000
set_option maxHeartbeats 8000000
namespace Mine
theorem lnK2_0 : True := by
  k_with_none
  w_top off
  k_with "pk" => first | exact pk1 | exact pk2 | exact pk3 | exact pk4 | (refine pkS ?_; k_extra "pk")
  k_with "ne" => (refine neN ?_; (try dsimp only); with_reducible first | assumption | exact .symm (by assumption) | exact pk2 (by assumption) | exact pk4 (by assumption) | (refine pkH (by assumption) ?_; k_extra "pk") | (refine pkL (by assumption) ?_; k_extra "pk") | fail)
  k_with "room" => first | exact rmA (by assumption) rfl | exact rmB (by assumption) rfl | exact rmC (by assumption) rfl | fail
  trivial
section
variable {prog : Program} {w : World} {p : Program} {loose : List Str} {mean : ExcName → Option Value} {mg mb : Str → Option Value} {dp un : Nat} {gd : Option (List Code)} {cn : Str} {cs : Scope} {a : Addr} {ccd : Value} {cl : List (Str × Addr)} {outer : List Env} {A₀ : Around} {base h₀ : Heap} {L : Addr} {m : Str → Option Value} {s : Shared} {Q E : Value → Shared → Prop} {news : List (Addr × Obj)}


theorem lnK2_1 : True := by
  k_with "exec Raise some none" => (k_here; k_dflt (refine raise_own (by rfl) ?_))
  k_with "call ref" => (k_here; (with_reducible show wpAny _ _ (call (Value.ref 51) _) _ _ _); (refine' exc_make ?BQ85 ?FQ85 ?XQ85 ?NQ85 ?TQ85 ?kQ85 ?dQ85 ?uQ85 ?_; (case BQ85 => k_asm); (case FQ85 => k_asm); (case XQ85 => k_asm); (case NQ85 => k_asm); (case TQ85 => k_asm); (case kQ85 => first | exact rfl | assumption); (case dQ85 => ktr_room); (case uQ85 => ktr_units)); intro h' tk' e' t1' d1' F' N' o1' o2' o3'; revert h' tk' e' t1' d1' F' N' o1' o2' o3'; intro _ _ _ _ _ _ _ _ _ _)
  k_with "RaisableX" => (k_here; refine ⟨_, _, _, rfl, (‹News _ _ _ ((_, excOd _ _) :: _)› _ (.head _)).1, rfl, rfl, rfl, Frag.In.keeps (by k_asm) (Fr.keep (by k_asm)), ?_⟩)
  k_with "leaving ref" => (k_here; (refine' leave_raiseZ ?BQ87 ?FQ87 ?NQ87 ?o1Q87 ?o2Q87 ?o3Q87 ?_; (case BQ87 => k_asm); (case FQ87 => k_asm); (case NQ87 => k_asm); (case o1Q87 => assumption); (case o2Q87 => assumption); (case o3Q87 => assumption)); intro h' R' U'; (try dsimp only at R' U' ⊢); revert h' R' U'; intro _ _ _)
  k_with "leaving ref" => (k_here; (refine' leave_onS ?k1Q88 ?k2Q88 ?k3Q88 ?k4Q88 ?_; (case k3Q88 => assumption); (case k1Q88 => assumption); (case k4Q88 => assumption); (case k2Q88 => assumption); k_whole; intro h' R' K' U'; (try dsimp only at R' U' ⊢); revert h' R' K' U'; intro _ _ _ _))
  trivial


theorem lnK2_2 : True := by
  k_with "call ref" => (k_here; (first | (with_reducible show wpAny _ _ (call (Value.ref 129) _) _ _ _) | (with_reducible show wpAny _ _ (call (Value.ref 122) _) _ _ _)); k_dflt (refine wpAny_call ?_; (refine' code_def ?k1Q93 ?k2Q93 ?k3Q93 ?k4Q93 ?k5Q93 ?kAQ93 ?kFQ93 ?kKQ93 ?k6Q93 ?k7Q93 ?k8Q93 ?k9Q93 ?kBQ93 ?_ ?c2Q93 ?c3Q93 ?c4Q93 ?c5Q93; (case kAQ93 => exact rfl); (case kFQ93 => exact rfl); (case kKQ93 => first | exact rfl | assumption); (case k1Q93 => k_asm); (case k2Q93 => k_asm); (case k3Q93 => k_asm); (case k4Q93 => k_asm); (case k5Q93 => k_asm); (case k6Q93 => k_is); (case k7Q93 => k_is); (case k8Q93 => ktr_room); (case k9Q93 => first | exact BindsTo.of_eq rfl | exact binds_K (by k_in) rfl (by k_is) rfl rfl rfl); (case c5Q93 => decide); (case kBQ93 => exact locs rfl); (case c2Q93 => exact rfl); (case c3Q93 => exact rfl); (case c4Q93 => exact rfl); k_whole; intro g' L' h' FG' F' N' B' X' T'; (try dsimp only); (try k_fold); revert g' L' h' FG' F' N' B' X' T'; intro _ _ _ _ _ _ _ _ _)))
  k_with "call ref" => (k_here; (first | (with_reducible show wpAny _ _ (call (Value.ref 77) _) _ _ _) | (with_reducible show wpAny _ _ (call (Value.ref 111) _) _ _ _)); k_dflt ((refine' call_cls ?k1Q90 ?k2Q90 ?k3Q90 ?k4Q90 ?k5Q90 ?k6Q90 ?_; (case k1Q90 => k_asm); (case k2Q90 => k_asm); (case k3Q90 => k_asm); (case k4Q90 => k_is); (case k5Q90 => k_is); (case k6Q90 => k_is); k_whole; intro x' d' h' F' N' l1 l2; (try k_lt l1); (try k_lt2 l2); (try k_sweep); revert x' d' h' F' N' l1 l2; intro _ _ _ _ _ _ _); (refine' code_def ?k1Q94 ?k2Q94 ?k3Q94 ?k4Q94 ?k5Q94 ?kAQ94 ?kFQ94 ?kKQ94 ?k6Q94 ?k7Q94 ?k8Q94 ?k9Q94 ?kBQ94 ?_ ?c2Q94 ?c3Q94 ?c4Q94 ?c5Q94; (case kAQ94 => exact rfl); (case kFQ94 => exact rfl); (case kKQ94 => first | exact rfl | assumption); (case k1Q94 => k_asm); (case k2Q94 => k_asm); (case k3Q94 => k_asm); (case k4Q94 => k_asm); (case k5Q94 => k_asm); (case k6Q94 => k_is); (case k7Q94 => k_is); (case k8Q94 => ktr_room); (case k9Q94 => first | exact BindsTo.of_eq rfl | exact binds_K (by k_in) rfl (by k_is) rfl rfl rfl); (case c5Q94 => decide); (case kBQ94 => exact locs rfl); (case c2Q94 => exact rfl); (case c3Q94 => exact rfl); (case c4Q94 => exact rfl); k_whole; intro g' L' h' FG' F' N' B' X' T'; (try dsimp only); (try k_fold); revert g' L' h' FG' F' N' B' X' T'; intro _ _ _ _ _ _ _ _ _)))
  k_with "call type:bytes" => (k_here; (with_reducible show wpAny _ _ (call (Value.type "bytes") [Value.bytes _ _]) _ _ _); refine call_bytes_same ?_)
  trivial
structure Tg where
  inst : Addr
  dict : Addr
  kd : Int
  pr : Int
  md : Bool
  vl : Int
  k1 : Tok
  k2 : Tok
  k4 : Tok
  t1 : Tok
  t2 : Tok
  t3 : Tok
  t4 : Tok
  n : Nat
structure Frm where
  inst : Addr
  dict : Addr
  tup : Addr
  v1 : Int
  v2 : Int
  v4 : Int
  v5 : Array UInt8
  k1 : Tok
  k2 : Tok
  k4 : Tok
  k5 : Tok
  t1 : Tok
  t2 : Tok
  t3 : Tok
  t4 : Tok
  t5 : Tok
  n : Nat
  tags : List Tg
noncomputable abbrev tagD (w : World) (t : Tg) : Obj := dictOf [⟨PyData.keyHash w.params (Str.ofString "kind"), .str (Str.ofString "kind") t.t1, .int t.kd t.k1⟩, ⟨PyData.keyHash w.params (Str.ofString "priority"), .str (Str.ofString "priority") t.t2, .int t.pr t.k2⟩, ⟨PyData.keyHash w.params (Str.ofString "may_drop"), .str (Str.ofString "may_drop") t.t3, .bool t.md⟩, ⟨PyData.keyHash w.params (Str.ofString "vlan"), .str (Str.ofString "vlan") t.t4, .int t.vl t.k4⟩] t.n
noncomputable abbrev frmD (w : World) (f : Frm) : Obj := dictOf [⟨PyData.keyHash w.params (Str.ofString "target"), .str (Str.ofString "target") f.t1, .int f.v1 f.k1⟩, ⟨PyData.keyHash w.params (Str.ofString "source"), .str (Str.ofString "source") f.t2, .int f.v2 f.k2⟩, ⟨PyData.keyHash w.params (Str.ofString "tags"), .str (Str.ofString "tags") f.t3, .ref f.tup⟩, ⟨PyData.keyHash w.params (Str.ofString "kind"), .str (Str.ofString "kind") f.t4, .int f.v4 f.k4⟩, ⟨PyData.keyHash w.params (Str.ofString "payload"), .str (Str.ofString "payload") f.t5, .bytes f.v5 f.k5⟩] f.n
noncomputable abbrev tupO (vs : List Value) : Obj := { cls := .type "tuple", data := .seq vs.toArray }
noncomputable abbrev Tg.led (w : World) (t : Tg) : List (Addr × Obj) := [(t.inst, instObj 77 t.dict), (t.dict, tagD w t)]
noncomputable abbrev Frm.led (w : World) (f : Frm) : List (Addr × Obj) := (f.inst, instObj 111 f.dict) :: (f.dict, frmD w f) :: (f.tup, tupO (f.tags.map fun t => .ref t.inst)) :: f.tags.flatMap (Tg.led w)

theorem copy_none {i d : Addr} {goal : Int} {gt s1 s2 s3 : Tok} {sv : Value} {n1 : Nat} {fv : Value}
    (B : Below A₀ base outer h₀) (F : Fr h₀ L s.heap m) (X : (pre.heap_1 w.params).In h₀) (N : News h₀ L s.heap ((i, instObj 161 d) :: (d, dictOf [⟨PyData.keyHash w.params (Str.ofString "goal"), .str (Str.ofString "goal") s1, .int goal gt⟩, ⟨PyData.keyHash w.params (Str.ofString "vlan"), .str (Str.ofString "vlan") s2, .none⟩, ⟨PyData.keyHash w.params (Str.ofString "sources"), .str (Str.ofString "sources") s3, sv⟩] n1) :: news)) (T : Top p loose mean mg mb h₀) (hk : cs.kind = .function)
    (hd : dp + 210 < recursionLimit) (hu : un + 80 < cLine)
    (hret : ∀ h' tk', Fr h₀ L h' m → News h₀ L h' news → Q fv { s with heap := h', toks := tk' }) :
    wpAny (model prog w) (ktrTop dp un gd cn cs L a ccd cl outer) (call (.ref 158) [.ref i, fv]) Q E s := by
  refine wpAny_call ?_
  k_dflt (refine' code_def ?k1Q95 ?k2Q95 ?k3Q95 ?k4Q95 ?k5Q95 ?kAQ95 ?kFQ95 ?kKQ95 ?k6Q95 ?k7Q95 ?k8Q95 ?k9Q95 ?kBQ95 ?_ ?c2Q95 ?c3Q95 ?c4Q95 ?c5Q95; (case kAQ95 => exact rfl); (case kFQ95 => exact rfl); (case kKQ95 => first | exact rfl | assumption); (case k1Q95 => k_asm); (case k2Q95 => k_asm); (case k3Q95 => k_asm); (case k4Q95 => k_asm); (case k5Q95 => k_asm); (case k6Q95 => k_is); (case k7Q95 => k_is); (case k8Q95 => ktr_room); (case k9Q95 => first | exact BindsTo.of_eq rfl | exact binds_K (by k_in) rfl (by k_is) rfl rfl rfl); (case c5Q95 => decide); (case kBQ95 => exact locs rfl); (case c2Q95 => exact rfl); (case c3Q95 => exact rfl); (case c4Q95 => exact rfl); k_whole; intro g' L' h' FG' F' N' B' X' T'; (try dsimp only); (try k_fold); revert g' L' h' FG' F' N' B' X' T'; intro _ _ _ _ _ _ _ _ _)
  k_steps
  exact hret _ _ (by assumption) (drop2 (by assumption))

theorem frame_made {w : World} {h : Heap} {fi fd ft gi gd : Addr} {q1 q2 q3 q4 q5 p1 p2 p3 p4 u1 u2 u4 : Tok} {n5 n4 : Nat} {v : Int} {f : Frm} {gs : List Value} {x1 x2 x3 x4 x5 : Addr × Obj}
    (N : News h₀ L h ((fi, instObj 111 fd) :: (fd, dictOf [⟨PyData.keyHash w.params (Str.ofString "target"), .str (Str.ofString "target") q1, .int f.v1 f.k1⟩, ⟨PyData.keyHash w.params (Str.ofString "source"), .str (Str.ofString "source") q2, .int f.v2 f.k2⟩, ⟨PyData.keyHash w.params (Str.ofString "tags"), .str (Str.ofString "tags") q3, .ref ft⟩, ⟨PyData.keyHash w.params (Str.ofString "kind"), .str (Str.ofString "kind") q4, .int f.v4 f.k4⟩, ⟨PyData.keyHash w.params (Str.ofString "payload"), .str (Str.ofString "payload") q5, .bytes f.v5 f.k5⟩] n5) ::
      (ft, { cls := .type "tuple", data := .seq (.ref gi :: gs).toArray }) :: (gi, instObj 77 gd) :: (gd, dictOf [⟨PyData.keyHash w.params (Str.ofString "kind"), .str (Str.ofString "kind") p1, .int 33024 u1⟩, ⟨PyData.keyHash w.params (Str.ofString "priority"), .str (Str.ofString "priority") p2, .int 0 u2⟩, ⟨PyData.keyHash w.params (Str.ofString "may_drop"), .str (Str.ofString "may_drop") p3, .bool false⟩, ⟨PyData.keyHash w.params (Str.ofString "vlan"), .str (Str.ofString "vlan") p4, .int v u4⟩] n4) :: x1 :: x2 :: x3 :: x4 :: x5 :: news)) :
    ∃ (f' : Frm) (g : Tg), fi = f'.inst ∧ News h₀ L h ((f'.inst, instObj 111 f'.dict) :: (f'.dict, frmD w f') :: (f'.tup, tupO (.ref g.inst :: gs)) :: (g.inst, instObj 77 g.dict) :: (g.dict, tagD w g) :: news) ∧ fd = f'.dict ∧ ft = f'.tup ∧ gi = g.inst ∧ gd = g.dict ∧
      f'.v1 = f.v1 ∧ f'.v2 = f.v2 ∧ f'.v4 = f.v4 ∧ f'.v5 = f.v5 ∧ f'.k5 = f.k5 ∧ f'.tags = g :: f.tags ∧ g.kd = 33024 ∧ g.pr = 0 ∧ g.md = false ∧ g.vl = v ∧ True := by
  refine ⟨{ inst := fi, dict := fd, tup := ft, v1 := f.v1, v2 := f.v2, v4 := f.v4, v5 := f.v5, k1 := f.k1, k2 := f.k2, k4 := f.k4, k5 := f.k5, t1 := q1, t2 := q2, t3 := q3, t4 := q4, t5 := q5, n := n5, tags := { inst := gi, dict := gd, kd := 33024, pr := 0, md := false, vl := v, k1 := u1, k2 := u2, k4 := u4, t1 := p1, t2 := p2, t3 := p3, t4 := p4, n := n4 } :: f.tags },
    { inst := gi, dict := gd, kd := 33024, pr := 0, md := false, vl := v, k1 := u1, k2 := u2, k4 := u4, t1 := p1, t2 := p2, t3 := p3, t4 := p4, n := n4 }, rfl, ?_, rfl, rfl, rfl, rfl, rfl, rfl, rfl, rfl, rfl, rfl, rfl, rfl, rfl, rfl, trivial⟩
  refine ledger_sub N ?_
  intro q hq
  simp only [List.mem_cons] at hq ⊢
  rcases hq with h | h | h | h | h | h <;> simp [h]

theorem drop4th {h : Heap} {x1 x2 x3 y : Addr × Obj} (N : News h₀ L h (x1 :: x2 :: x3 :: y :: news)) : News h₀ L h (x1 :: x2 :: x3 :: news) := ledger_sub N (by
  intro q hq
  simp only [List.mem_cons] at hq ⊢
  rcases hq with h | h | h | h <;> simp [h])
theorem join_tag {A : Around} {a b : Addr} {x : Value} {ys : List Value} {Q : Value → Shared → Prop} (F : Fr h₀ L s.heap m) (N : News h₀ L s.heap news) (ha : (a, tupO [x]) ∈ news) (hb : (b, tupO ys) ∈ news) (hz : ys.length ≤ 100)
    (h : ∀ t h', Fr h₀ L h' m → News h₀ L h' ((t, tupO (x :: ys)) :: news) → (t = a ∨ ∀ q ∈ news, q.1 < t) → Q (.ref t) { s with heap := h' }) :
    wpAny (model prog w) A (binaryOp .Add (.ref a) (.ref b)) Q E s := by
  have hta : IsTup s.heap a #[x] := ⟨_, (N _ ha).1, rfl, _, rfl⟩
  have htb : IsTup s.heap b ys.toArray := ⟨_, (N _ hb).1, rfl, _, rfl⟩
  by_cases e : ys = []
  · subst e
    exact kde_addT1 F N hta htb (by simp) (by simp) (by simp) (h a s.heap F (fun q hq => by
      rcases List.mem_cons.mp hq with rfl | hq
      · exact N _ ha
      · exact N _ hq) (.inl rfl))
  · exact kde_addT F N hta htb (by simp) (by simpa using e) (by simp; omega) (zs := x :: ys) (by simp) fun D h' F' N' l => h D h' F' N' (.inr l)
theorem lnK2_3 : True := by
  k_with "binaryOp Add ref ref" => (k_here; k_dflt (refine' join_tag ?FQ92 ?NQ92 ?aQ92 ?bQ92 ?zQ92 ?_; (case FQ92 => k_asm); (case NQ92 => k_asm); (case aQ92 => k_mem); (case bQ92 => k_mem); (case zQ92 => rw [List.length_map]; assumption)); intro t' h' F' N' o'; revert t' h' F' N' o'; intro _ _ _ _ _)
  trivial
theorem copy_tag {i d : Addr} {goal v : Int} {gt vt s1 s2 s3 : Tok} {sv : Value} {n1 : Nat} {f : Frm}
    (B : Below A₀ base outer h₀) (F : Fr h₀ L s.heap m) (X : (pre.heap_1 w.params).In h₀) (N : News h₀ L s.heap ((i, instObj 161 d) :: (d, dictOf [⟨PyData.keyHash w.params (Str.ofString "goal"), .str (Str.ofString "goal") s1, .int goal gt⟩, ⟨PyData.keyHash w.params (Str.ofString "vlan"), .str (Str.ofString "vlan") s2, .int v vt⟩, ⟨PyData.keyHash w.params (Str.ofString "sources"), .str (Str.ofString "sources") s3, sv⟩] n1) :: (f.inst, instObj 111 f.dict) :: (f.dict, frmD w f) :: (f.tup, tupO (f.tags.map fun t => .ref t.inst)) :: news)) (T : Top p loose mean mg mb h₀) (hk : cs.kind = .function)
    (hft : f.tags.length ≤ 100) (hd : dp + 240 < recursionLimit) (hu : un + 80 < cLine)
    (hret : ∀ h' tk' (f' : Frm) (g : Tg), Fr h₀ L h' m → News h₀ L h' ((f'.inst, instObj 111 f'.dict) :: (f'.dict, frmD w f') :: (f'.tup, tupO (.ref g.inst :: f.tags.map fun t => .ref t.inst)) :: (g.inst, instObj 77 g.dict) :: (g.dict, tagD w g) :: news) →
      (∀ q ∈ news, q.1 < g.dict) → g.dict < g.inst → g.inst < f'.tup → f'.tup < f'.dict → f'.dict < f'.inst →
      f'.v1 = f.v1 → f'.v2 = f.v2 → f'.v4 = f.v4 → f'.v5 = f.v5 → f'.k5 = f.k5 → f'.tags = g :: f.tags → g.kd = 33024 → g.pr = 0 → g.md = false → g.vl = v → Q (.ref f'.inst) { s with heap := h', toks := tk' }) :
    wpAny (model prog w) (ktrTop dp un gd cn cs L a ccd cl outer) (call (.ref 158) [.ref i, .ref f.inst]) Q E s := by
  refine wpAny_call ?_
  k_dflt (refine' code_def ?k1Q96 ?k2Q96 ?k3Q96 ?k4Q96 ?k5Q96 ?kAQ96 ?kFQ96 ?kKQ96 ?k6Q96 ?k7Q96 ?k8Q96 ?k9Q96 ?kBQ96 ?_ ?c2Q96 ?c3Q96 ?c4Q96 ?c5Q96; (case kAQ96 => exact rfl); (case kFQ96 => exact rfl); (case kKQ96 => first | exact rfl | assumption); (case k1Q96 => k_asm); (case k2Q96 => k_asm); (case k3Q96 => k_asm); (case k4Q96 => k_asm); (case k5Q96 => k_asm); (case k6Q96 => k_is); (case k7Q96 => k_is); (case k8Q96 => ktr_room); (case k9Q96 => first | exact BindsTo.of_eq rfl | exact binds_K (by k_in) rfl (by k_is) rfl rfl rfl); (case c5Q96 => decide); (case kBQ96 => exact locs rfl); (case c2Q96 => exact rfl); (case c3Q96 => exact rfl); (case c4Q96 => exact rfl); k_whole; intro g' L' h' FG' F' N' B' X' T'; (try dsimp only); (try k_fold); revert g' L' h' FG' F' N' B' X' T'; intro _ _ _ _ _ _ _ _ _)
  k_steps
  rename News h₀ L _ _ => kN
  rename (_ = _ ∨ _) => hO
  have hN := frame_made (f := f) (gs := f.tags.map fun t => .ref t.inst) (drop4th kN)
  obtain ⟨f', g, e, hN, a1, a2, a3, a4, a5, a6, a7, a8, a9, a10, b1, b2, b3, b4, b5⟩ := hN
  subst e a1 a2 a3 a4
  rename (i < g.dict ∧ _) => hG
  have hT : @LT.lt Nat _ g.inst f'.tup := by
    rcases hO with e2 | o
    · rw [e2]; omega
    · exact o (g.inst, instObj 77 g.dict) (by k_mem)
  rename (f'.tup < f'.dict ∧ _) => hD
  refine hret _ _ f' g (by assumption) hN (fun q hq => allLt_mem hG.2.2.2.2.2 q hq) (by assumption) hT hD.1 (by assumption) a5 a6 a7 a8 a9 a10 b1 b2 b3 b4

end
end Mine
end

section
open PySem PySem.W PyProof.Rows PySem.Calls
set_option Elab.async false
set_option maxRecDepth 100000
set_option maxHeartbeats 4000000
namespace Mine
theorem lnS1_0 : True := by
  k_with_none
  w_top off
  k_with "pk" => first | exact pk1 | exact pk2 | exact pk3 | exact pk4 | (refine pkS ?_; k_extra "pk")
  k_with "ne" => (refine neN ?_; (try dsimp only); with_reducible first | assumption | exact .symm (by assumption) | exact pk2 (by assumption) | exact pk4 (by assumption) | (refine pkH (by assumption) ?_; k_extra "pk") | (refine pkL (by assumption) ?_; k_extra "pk") | fail)
  k_with "room" => first | exact rmA (by assumption) rfl | exact rmB (by assumption) rfl | exact rmC (by assumption) rfl | fail
  trivial
theorem ints_keys {prog : Program} {w : World} : ∀ {vs : List Value} {kvs : List (Int × Value)}, vs.length = kvs.length → (∀ (j : Nat) (v : Value), vs[j]? = some v → ∃ k x, kvs[j]? = some (k, x) ∧ (intKind prog w).is k v = true) → IntsAre vs (kvs.map (·.1))
  | [], [], _, _ => .nil
  | [], _ :: _, h, _ => by simp at h
  | _ :: _, [], h, _ => by simp at h
  | v :: vs, (k, x) :: kvs, h, hv => by
    obtain ⟨k', x', e, hk⟩ := hv 0 v rfl
    simp at e
    obtain ⟨rfl, rfl⟩ := e
    obtain ⟨t, rfl⟩ := PySem.Value.isInt_shape hk
    refine .cons _ t (ints_keys (prog := prog) (w := w) (by simpa using h) fun j v hj => ?_)
    have := hv (j + 1) v (by simpa using hj)
    simpa using this
section
variable {prog : Program} {w : World} {A : Around} {E : Value → Shared → Prop} {s : Shared} {h₀ : Heap} {L : Addr} {m : Str → Option Value} {news : List (Addr × Obj)}
theorem sorted_dict {d : Addr} {o : Obj} {kvs : List (Int × Value)} {Q : Value → Shared → Prop} (hh : A.handled = none) (F : Fr h₀ L s.heap m) (N : News h₀ L s.heap news) (hp : (d, o) ∈ news) (hd : o.IsDictOf (intKind prog w) kvs) (lo : (d == sysModules) = false) (hz : kvs.length < 64)
    (h : ∀ (B : Addr) h' tk vs ns c, Fr h₀ L h' m → News h₀ L h' ((B, listOf (List.toArray vs) c) :: news) → (∀ q ∈ news, q.1 < B) → IntsAre vs ns → ns.Perm (kvs.map (·.1)) → ns.Pairwise (· ≤ ·) → Q (.ref B) { s with heap := h', toks := tk }) :
    wpAny (model prog w) A (call (.builtin "sorted") [.ref d]) Q E s := by
  obtain ⟨ep, hat⟩ := KdkAt.of hd
  refine kdu_sorted (kdl_dict (knd := intKind prog w) (kvs := kvs) (ep := ep) lo) hh F N (hat.dictAt (N _ hp).1) (kdl_size (by omega)) fun B h' tk vs F' N' l1 hl hv => ?_
  have hi : IntsAre vs (kvs.map (·.1)) := ints_keys hl hv
  have hB := N' (B, listOf vs.toArray 0) (.head _)
  refine wpAny_call_entry slot_list_sort ⟨_, hB.1, rfl⟩ entry_list_sort (list_sort_tree (n := 0) hB.1 hi (by omega) fun out ns' a1 a2 a3 => ⟨_, rfl, ?_⟩) (args_list_sort _)
  obtain ⟨e, he⟩ := sortedHeap_at (vs := vs) (out := out) (n := 0) hB.1
  have old : ∀ b o, b ≠ B → h'.get? b = some o → (sortedHeap h' B vs out).get? b = some o := fun b o hb eb => by rw [sortedHeap_old hb (Heap.lt_size eb)]; exact eb
  have hLB : L ≠ B := Ne.symm hB.2.1
  refine h B (sortedHeap h' B vs out) tk out.toList ns' e ⟨F'.ns.at' fun o eo => old L o hLB eo, fun b o eb => old b o (fun z => by rw [z, hB.2.2] at eb; cases eb) (F'.keep b o eb), F'.above⟩ (fun p hp => ?_) l1 a1 a2 a3
  rcases List.mem_cons.mp hp with rfl | hp
  · refine ⟨?_, hB.2⟩
    rw [he]
  · have z := N' p (.tail _ hp)
    exact ⟨old _ _ (Nat.ne_of_lt (l1 p hp)) z.1, z.2⟩
end
end Mine
end

section
open PySem PySem.W PyProof.Rows PySem.Calls PyProof.Rows.LCg PyProof.Rows.LCt
set_option Elab.async false
set_option maxRecDepth 100000
set_option maxHeartbeats 8000000
namespace Mine
theorem lnK3_0 : True := by
  k_with_none
  w_top off
  k_with "pk" => first | exact pk1 | exact pk2 | exact pk3 | exact pk4 | (refine pkS ?_; k_extra "pk")
  k_with "ne" => (refine neN ?_; (try dsimp only); with_reducible first | assumption | exact .symm (by assumption) | exact pk2 (by assumption) | exact pk4 (by assumption) | (refine pkH (by assumption) ?_; k_extra "pk") | (refine pkL (by assumption) ?_; k_extra "pk") | fail)
  k_with "room" => first | exact rmA (by assumption) rfl | exact rmB (by assumption) rfl | exact rmC (by assumption) rfl | fail
  trivial
section
variable {prog : Program} {w : World} {p : Program} {loose : List Str} {mean : ExcName → Option Value} {mg mb : Str → Option Value} {dp un : Nat} {gd : Option (List Code)} {cn : Str} {cs : Scope} {a : Addr} {ccd : Value} {cl : List (Str × Addr)} {outer : List Env} {A₀ : Around} {base h₀ : Heap} {L : Addr} {m : Str → Option Value} {s : Shared} {Q E : Value → Shared → Prop} {news : List (Addr × Obj)}


theorem lnK3_1 : True := by
  k_with "exec Raise some none" => (k_here; k_dflt (refine raise_own (by rfl) ?_))
  k_with "call ref" => (k_here; (with_reducible show wpAny _ _ (call (Value.ref 51) _) _ _ _); (refine' exc_make ?BQ98 ?FQ98 ?XQ98 ?NQ98 ?TQ98 ?kQ98 ?dQ98 ?uQ98 ?_; (case BQ98 => k_asm); (case FQ98 => k_asm); (case XQ98 => k_asm); (case NQ98 => k_asm); (case TQ98 => k_asm); (case kQ98 => first | exact rfl | assumption); (case dQ98 => ktr_room); (case uQ98 => ktr_units)); intro h' tk' e' t1' d1' F' N' o1' o2' o3'; revert h' tk' e' t1' d1' F' N' o1' o2' o3'; intro _ _ _ _ _ _ _ _ _ _)
  k_with "RaisableX" => (k_here; refine ⟨_, _, _, rfl, (‹News _ _ _ ((_, excOd _ _) :: _)› _ (.head _)).1, rfl, rfl, rfl, Frag.In.keeps (by k_asm) (Fr.keep (by k_asm)), ?_⟩)
  k_with "leaving ref" => (k_here; (refine' leave_raiseZ ?BQ100 ?FQ100 ?NQ100 ?o1Q100 ?o2Q100 ?o3Q100 ?_; (case BQ100 => k_asm); (case FQ100 => k_asm); (case NQ100 => k_asm); (case o1Q100 => assumption); (case o2Q100 => assumption); (case o3Q100 => assumption)); intro h' R' U'; (try dsimp only at R' U' ⊢); revert h' R' U'; intro _ _ _)
  k_with "leaving ref" => (k_here; (refine' leave_onS ?k1Q101 ?k2Q101 ?k3Q101 ?k4Q101 ?_; (case k3Q101 => assumption); (case k1Q101 => assumption); (case k4Q101 => assumption); (case k2Q101 => assumption); k_whole; intro h' R' K' U'; (try dsimp only at R' U' ⊢); revert h' R' K' U'; intro _ _ _ _))
  trivial
noncomputable def Copied (vl : Value) (f f' : Frm) : Prop := f'.v1 = f.v1 ∧ f'.v2 = f.v2 ∧ f'.v4 = f.v4 ∧ f'.v5 = f.v5 ∧ f'.k5 = f.k5 ∧ (vl = .none → f'.tags = f.tags) ∧ (∀ v t, vl = .int v t → ∃ g, f'.tags = g :: f.tags ∧ g.kd = 33024 ∧ g.pr = 0 ∧ g.md = false ∧ g.vl = v)

theorem copy_spec {x : Addr × Obj} {c : Ses} {f : Frm}
    (B : Below A₀ base outer h₀) (F : Fr h₀ L s.heap m) (X : (pre.heap_1 w.params).In h₀) (N0 : News h₀ L s.heap (x :: news)) (T : Top p loose mean mg mb h₀) (hk : cs.kind = .function)
    (hc1 : (c.inst, instObj 161 c.dict) ∈ news) (hc2 : (c.dict, sesD w c) ∈ news) (hf : ∀ q ∈ f.led w, q ∈ news) (hft : f.tags = [] ∨ ∃ g, f.tags = [g]) (hv : c.vl = .none ∨ ∃ v t, c.vl = .int v t)
    (hd : dp + 260 < recursionLimit) (hu : un + 120 < cLine)
    (hret : ∀ h' tk' (f' : Frm) add, Fr h₀ L h' m → News h₀ L h' (x :: (add ++ news)) → (∀ q ∈ add, ∀ p ∈ x :: news, p.1 < q.1) → (∀ q ∈ f'.led w, q ∈ add ++ f.led w) → Copied c.vl f f' → Q (.ref f'.inst) { s with heap := h', toks := tk' }) :
    wpAny (model prog w) (ktrTop dp un gd cn cs L a ccd cl outer) (call (.ref 158) [.ref c.inst, .ref f.inst]) Q E s := by
  have h1 : (f.inst, instObj 111 f.dict) ∈ news := hf _ (by simp)
  have h2 : (f.dict, frmD w f) ∈ news := hf _ (by simp)
  have h3 : (f.tup, tupO (f.tags.map fun t => .ref t.inst)) ∈ news := hf _ (by simp)
  have hN : ∀ (sv : Value) (y : Addr × Obj), y ∈ news → News h₀ L s.heap ((c.inst, instObj 161 c.dict) :: (c.dict, sesD w c) :: (f.inst, instObj 111 f.dict) :: (f.dict, frmD w f) :: y :: x :: news) := fun sv y hy => ledger_sub N0 (by
    intro q hq
    simp only [List.mem_cons] at hq ⊢
    rcases hq with h | h | h | h | h | h | h
    · right; rw [h]; exact hc1
    · right; rw [h]; exact hc2
    · right; rw [h]; exact h1
    · right; rw [h]; exact h2
    · right; rw [h]; exact hy
    · left; exact h
    · right; exact h)
  rcases hv with hv | ⟨v, vt, hv⟩
  · have N := hN .none _ h1
    unfold sesD at N
    rw [hv] at N
    refine copy_none B F X N T hk (by omega) (by omega) fun h' tk' F' N' => ?_
    refine hret h' tk' f [] F' (ledger_sub N' fun q hq => by simp only [List.mem_cons, List.nil_append] at hq ⊢; rcases hq with h | h <;> simp [h]) (fun q hq => nomatch hq) (fun q hq => hq) ?_
    refine ⟨rfl, rfl, rfl, rfl, rfl, fun _ => rfl, fun v t e => ?_⟩
    rw [hv] at e; cases e
  · have hft1 : f.tags.length ≤ 100 := by rcases hft with e | ⟨g, e⟩ <;> simp [e]
    have N := hN .none _ h3
    unfold sesD at N
    rw [hv] at N
    refine copy_tag B F X N T hk hft1 (by omega) (by omega) fun h' tk' f' g F' N' a0 a1 a2 a3 a4 b1 b2 b3 b4 b5 b6 b7 b8 b9 b10 => ?_
    have hlt : ∀ q ∈ [(f'.inst, instObj 111 f'.dict), (f'.dict, frmD w f'), (f'.tup, tupO (.ref g.inst :: f.tags.map fun t => .ref t.inst)), (g.inst, instObj 77 g.dict), (g.dict, tagD w g)], ∀ p ∈ x :: news, p.1 < q.1 := by
      intro q hq p hp
      have hp' := a0 p hp
      simp only [List.mem_cons, List.not_mem_nil, or_false] at hq
      rcases hq with rfl | rfl | rfl | rfl | rfl
      · exact Nat.lt_trans (Nat.lt_trans (Nat.lt_trans (Nat.lt_trans hp' a1) a2) a3) a4
      · exact Nat.lt_trans (Nat.lt_trans (Nat.lt_trans hp' a1) a2) a3
      · exact Nat.lt_trans (Nat.lt_trans hp' a1) a2
      · exact Nat.lt_trans hp' a1
      · exact hp'
    refine hret h' tk' f' _ F' (ledger_sub N' ?_) hlt ?_ ⟨b1, b2, b3, b4, b5, fun e => (by rw [hv] at e; cases e), fun v' t' e => by rw [hv] at e; cases e; exact ⟨g, b6, b7, b8, b9, b10⟩⟩
    · intro q hq
      simp only [List.mem_cons, List.cons_append, List.nil_append] at hq ⊢
      rcases hq with h | h | h | h | h | h | h <;> simp [h]
    · intro q hq
      unfold Frm.led at hq
      rw [b6] at hq
      rcases List.mem_cons.mp hq with rfl | hq
      · exact List.mem_append_left _ (.head _)
      rcases List.mem_cons.mp hq with rfl | hq
      · exact List.mem_append_left _ (.tail _ (.head _))
      rcases List.mem_cons.mp hq with rfl | hq
      · exact List.mem_append_left _ (.tail _ (.tail _ (.head _)))
      rw [List.flatMap_cons] at hq
      rcases List.mem_append.mp hq with hq | hq
      · exact List.mem_append_left _ (.tail _ (.tail _ (.tail _ hq)))
      · exact List.mem_append_right _ (.tail _ (.tail _ (.tail _ hq)))

end
end Mine
end

section
open PySem PySem.W PyProof.Rows PySem.Calls PyProof.Rows.LCg PyProof.Rows.LCt
set_option Elab.async false
set_option maxRecDepth 100000
set_option maxHeartbeats 8000000
namespace Mine
theorem lnK4_0 : True := by
  k_with_none
  w_top off
  k_with "pk" => first | exact pk1 | exact pk2 | exact pk3 | exact pk4 | (refine pkS ?_; k_extra "pk")
  k_with "ne" => (refine neN ?_; (try dsimp only); with_reducible first | assumption | exact .symm (by assumption) | exact pk2 (by assumption) | exact pk4 (by assumption) | (refine pkH (by assumption) ?_; k_extra "pk") | (refine pkL (by assumption) ?_; k_extra "pk") | fail)
  k_with "room" => first | exact rmA (by assumption) rfl | exact rmB (by assumption) rfl | exact rmC (by assumption) rfl | fail
  trivial
section
variable {prog : Program} {w : World} {p : Program} {loose : List Str} {mean : ExcName → Option Value} {mg mb : Str → Option Value} {dp un : Nat} {gd : Option (List Code)} {cn : Str} {cs : Scope} {a : Addr} {ccd : Value} {cl : List (Str × Addr)} {outer : List Env} {A₀ : Around} {base h₀ : Heap} {L : Addr} {m : Str → Option Value} {s : Shared} {Q E : Value → Shared → Prop} {news : List (Addr × Obj)}


theorem lnK4_1 : True := by
  k_with "exec Raise some none" => (k_here; k_dflt (refine raise_own (by rfl) ?_))
  k_with "call ref" => (k_here; (with_reducible show wpAny _ _ (call (Value.ref 51) _) _ _ _); (refine' exc_make ?BQ103 ?FQ103 ?XQ103 ?NQ103 ?TQ103 ?kQ103 ?dQ103 ?uQ103 ?_; (case BQ103 => k_asm); (case FQ103 => k_asm); (case XQ103 => k_asm); (case NQ103 => k_asm); (case TQ103 => k_asm); (case kQ103 => first | exact rfl | assumption); (case dQ103 => ktr_room); (case uQ103 => ktr_units)); intro h' tk' e' t1' d1' F' N' o1' o2' o3'; revert h' tk' e' t1' d1' F' N' o1' o2' o3'; intro _ _ _ _ _ _ _ _ _ _)
  k_with "RaisableX" => (k_here; refine ⟨_, _, _, rfl, (‹News _ _ _ ((_, excOd _ _) :: _)› _ (.head _)).1, rfl, rfl, rfl, Frag.In.keeps (by k_asm) (Fr.keep (by k_asm)), ?_⟩)
  k_with "leaving ref" => (k_here; (refine' leave_raiseZ ?BQ105 ?FQ105 ?NQ105 ?o1Q105 ?o2Q105 ?o3Q105 ?_; (case BQ105 => k_asm); (case FQ105 => k_asm); (case NQ105 => k_asm); (case o1Q105 => assumption); (case o2Q105 => assumption); (case o3Q105 => assumption)); intro h' R' U'; (try dsimp only at R' U' ⊢); revert h' R' U'; intro _ _ _)
  k_with "leaving ref" => (k_here; (refine' leave_onS ?k1Q106 ?k2Q106 ?k3Q106 ?k4Q106 ?_; (case k3Q106 => assumption); (case k1Q106 => assumption); (case k4Q106 => assumption); (case k2Q106 => assumption); k_whole; intro h' R' K' U'; (try dsimp only at R' U' ⊢); revert h' R' K' U'; intro _ _ _ _))
  trivial
/-- a halt of the walk -/
noncomputable def Stop (P : Prop) : Prop := P
theorem Stop.go {P : Prop} (h : Stop P) : P := h

theorem lnK4_2 : True := by
  k_with "call builtin:sorted" => (k_here; (with_reducible show wpAny _ _ (call (Value.builtin "sorted") [Value.ref _]) _ _ _); (refine' sorted_dict ?hhQ107 ?FQ107 ?NQ107 ?pQ107 ?dQ107 ?lQ107 ?zQ107 ?_; (case hhQ107 => rfl); (case FQ107 => k_asm); (case NQ107 => k_asm); (case pQ107 => k_mem); (case dQ107 => assumption); (case lQ107 => assumption); (case zQ107 => rw [List.length_map]; omega)); intro B' h' tk' vs' ns' c' F' N' l1 hI hP hO; (try k_lt l1); revert B' h' tk' vs' ns' c' F' N' l1 hI hP hO; intro _ _ _ _ _ _ _ _ _ _ _ _; refine Stop.go ?_)
  trivial
theorem append_led {A : Around} {D T : Addr} {v : Value} {acc : List Value} {n : Nat} {o : Obj} {rest : List (Addr × Obj)} {Q : Value → Shared → Prop} (F : Fr h₀ L s.heap m) (N : News h₀ L s.heap ((T, o) :: (D, listOf (List.toArray acc) n) :: rest)) (hT : T ≠ D) (hr : ∀ q ∈ rest, q.1 ≠ D) (hz : acc.length ≤ 1000)
    (h : ∀ h', Fr h₀ L h' m → News h₀ L h' ((T, o) :: (D, listOf (List.toArray (acc ++ [v])) (n + 1)) :: rest) → Q .none { s with heap := h' }) :
    wpAny (model prog w) A (call (.builtin "list.append") [.ref D, v]) Q E s := by
  have hD := N (D, _) (.tail _ (.head _))
  refine append_at (hsz := by rw [List.size_toArray, PySem.sizeLine_eq]; omega) hD.1 fun h' hs he => ?_
  refine h h' (F.change hs hD.2.1 hD.2.2) fun p hp => ?_
  rcases List.mem_cons.mp hp with rfl | hp
  · exact ⟨hs.extBut _ _ hT (N _ (.head _)).1, (N _ (.head _)).2⟩
  · rcases List.mem_cons.mp hp with rfl | hp
    · refine ⟨he.trans (congrArg some ?_), hD.2⟩
      show ({ cls := .type "list", data := .seq (acc.toArray.push v) (n + 1) } : Obj) = { cls := .type "list", data := .seq (acc ++ [v]).toArray (n + 1) }
      rw [List.push_toArray]
    · exact ⟨hs.extBut _ _ (hr p hp) (N _ (.tail _ (.tail _ hp))).1, (N _ (.tail _ (.tail _ hp))).2⟩

theorem lnK4_3 : True := by
  k_with "call builtin:list.append" => (k_here; (with_reducible show wpAny _ _ (call (Value.builtin _) [Value.ref _, _]) _ _ _); k_dflt (refine' append_led ?FQ108 ?NQ108 ?TQ108 ?rQ108 ?zQ108 ?_; (case FQ108 => k_asm); (case NQ108 => k_asm); (case TQ108 => k_ne); (case rQ108 => assumption); (case zQ108 => assumption)); intro h' F' N'; revert h' F' N'; intro _ _ _)
  trivial
theorem mem6 {q x2 x3 x4 x5 x6 x7 : Addr × Obj} {R : List (Addr × Obj)} (h : q ∈ R) : q ∈ x2 :: x3 :: x4 :: x5 :: x6 :: x7 :: R := .tail _ (.tail _ (.tail _ (.tail _ (.tail _ (.tail _ h)))))
theorem mem7 {q x1 x2 x3 x4 x5 x6 x7 : Addr × Obj} {R : List (Addr × Obj)} (h : q ∈ R) : q ∈ x1 :: x2 :: x3 :: x4 :: x5 :: x6 :: x7 :: R := .tail _ (mem6 h)
theorem memA7 {q x0 x1 x2 x3 x4 x5 x6 x7 : Addr × Obj} {add R : List (Addr × Obj)} (h : q ∈ R) : q ∈ x0 :: x1 :: (add ++ (x2 :: x3 :: x4 :: x5 :: x6 :: x7 :: R)) := .tail _ (.tail _ (List.mem_append_right _ (mem6 h)))
theorem stored_back {a1 a2 : Str} {v1 v2 : Value} {u m₀ : Str → Option Value} {z : Str} (hz : z ≠ a2) (hs : [a1].contains z = false) :
    (fun y => if y = a1 then some v1 else if y = a2 then some v2 else kstB (fun z => if [a1].contains z = true then u z else m₀ z) [] y) z = m₀ z := by
  have h1 : z ≠ a1 := by
    intro e; subst e; simp at hs
  simp only [if_neg h1, if_neg hz, kstB, hs, Bool.false_eq_true, if_false]

theorem ses3 {h : Heap} {x1 x2 x3 x4 x5 x6 x7 : Addr × Obj} {R : List (Addr × Obj)} (N : News h₀ L h (x1 :: x2 :: x3 :: x4 :: x5 :: x6 :: x7 :: R)) : News h₀ L h (x5 :: x6 :: x7 :: x1 :: x2 :: x3 :: x4 :: x5 :: x6 :: x7 :: R) := ledger_sub N (by
  intro q hq
  simp only [List.mem_cons] at hq ⊢
  rcases hq with h | h | h | h | h | h | h | h | h | h | h <;> simp [h])

theorem off_add {x : Addr × Obj} {add rest : List (Addr × Obj)} (h : ∀ q ∈ add, ∀ p ∈ x :: rest, p.1 < q.1) (hr : ∀ q ∈ rest, q.1 ≠ x.1) : ∀ q ∈ add ++ rest, q.1 ≠ x.1 := fun q hq => by
  rcases List.mem_append.mp hq with hq | hq
  · exact Nat.ne_of_gt (h q hq x (.head _))
  · exact hr q hq

theorem lnK4_4 : True := by
  k_with "getItem ref int" => (k_here; (with_reducible show wpAny _ _ (getItem (Value.ref _) (Value.int _ _)) _ _ _); (refine' dict_getitem (knd := PySem.intKind _ _) (intKind_is _ _ _ _) ?NQ109 ?hQ109 ?dQ109 ?lQ109 ?_; (case NQ109 => k_asm); (case hQ109 => k_mem); (case dQ109 => k_asm); (case lQ109 => exact valueAt_ses Ses.num (fun c => Value.ref c.inst) (by assumption) (by assumption))))
  k_with "call ref" => (k_here; (with_reducible show wpAny _ _ (call (Value.ref 151) _) _ _ _); k_dflt (refine' takes_none ?BQ110 ?FQ110 ?XQ110 ?NQ110 ?TQ110 ?kQ110 ?dQ110 ?uQ110 ?SQ110 ?lQ110 ?vQ110 ?_; (case BQ110 => k_asm); (case FQ110 => k_asm); (case XQ110 => k_asm); (case NQ110 => exact ses3 (by assumption)); (case TQ110 => k_asm); (case kQ110 => first | exact rfl | assumption); (case SQ110 => assumption); (case dQ110 => ktr_room); (case uQ110 => ktr_units); (case lQ110 => assumption); (case vQ110 => assumption)); intro h' tk' F' N'; revert h' tk' F' N'; intro _ _ _ _)
  k_with "call ref" => (k_here; (with_reducible show wpAny _ _ (call (Value.ref 151) _) _ _ _); k_dflt (refine' takes_some ?BQ111 ?FQ111 ?XQ111 ?NQ111 ?TQ111 ?kQ111 ?dQ111 ?uQ111 ?SQ111 ?lQ111 ?vQ111 ?_; (case BQ111 => k_asm); (case FQ111 => k_asm); (case XQ111 => k_asm); (case NQ111 => exact ses3 (by assumption)); (case TQ111 => k_asm); (case kQ111 => first | exact rfl | assumption); (case SQ111 => assumption); (case dQ111 => ktr_room); (case uQ111 => ktr_units); (case lQ111 => assumption); (case vQ111 => assumption)); intro h' tk' F' N'; revert h' tk' F' N'; intro _ _ _ _)
  k_with "call ref" => (k_here; (with_reducible show wpAny _ _ (call (Value.ref 158) _) _ _ _); (refine' copy_spec ?BQ112 ?FQ112 ?XQ112 ?NQ112 ?TQ112 ?kQ112 ?c1Q112 ?c2Q112 ?fQ112 ?ftQ112 ?vQ112 ?dQ112 ?uQ112 ?_; (case BQ112 => k_asm); (case FQ112 => k_asm); (case XQ112 => k_asm); (case NQ112 => k_asm); (case TQ112 => k_asm); (case kQ112 => first | exact rfl | assumption); (case c1Q112 => k_mem); (case c2Q112 => k_mem); (case fQ112 => assumption); (case ftQ112 => assumption); (case vQ112 => assumption); (case dQ112 => ktr_room); (case uQ112 => ktr_units)); intro h' tk' f' add' F' N' hlt' hled' hcop'; have hod' := off_add hlt' (by assumption); revert h' tk' f' add' F' N' hlt' hled' hcop' hod'; intro _ _ _ _ _ _ _ _ _ _)
  trivial
noncomputable def takesB (c : Ses) (port : Int) (way : Str) : Bool := match valueAt c.kv port with
  | some (.str x _) => [way, Str.ofString "both"].any (· == x)
  | _ => false
noncomputable def hitOf (σ : List Ses) (port : Int) (way : Str) (k : Int) : Option Ses := (σ.find? fun c => c.num = k).filter fun c => takesB c port way
structure Cp where
  c : Ses
  tup : Addr
  f : Frm
structure CpSt where
  acc : List Value
  n : Nat
  cps : List Cp
noncomputable def Cp.Ok (w : World) (f : Frm) (nw : List (Addr × Obj)) (cp : Cp) : Prop := (cp.tup, tupO [.int cp.c.goal cp.c.gt, .ref cp.f.inst]) ∈ nw ∧ (∀ q ∈ cp.f.led w, q ∈ nw) ∧ Copied cp.c.vl f cp.f
theorem Cp.Ok.mono {w : World} {f : Frm} {nw nw' : List (Addr × Obj)} {cp : Cp} (h : cp.Ok w f nw) (hs : ∀ q ∈ nw, q ∈ nw') : cp.Ok w f nw' := ⟨hs _ h.1, fun q hq => hs q (h.2.1 q hq), h.2.2⟩

theorem copies_spec {M dM S : Addr} {oS : Obj} {t1 t2 tm : Tok} {nM : Nat} {σ : List Ses} {f : Frm} {port : Int} {tp : Tok} {way : Str} {tw : Tok}
    (B : Below A₀ base outer h₀) (F : Fr h₀ L s.heap m) (X : (pre.heap_1 w.params).In h₀) (N0 : News h₀ L s.heap news) (T : Top p loose mean mg mb h₀) (hk : cs.kind = .function)
    (hm : ∀ q ∈ (M, instObj 236 dM) :: (dM, mirD w t1 t2 tm S nM) :: (S, oS) :: ledS w σ, q ∈ news) (hf : ∀ q ∈ f.led w, q ∈ news) (hft : f.tags = [] ∨ ∃ g, f.tags = [g])
    (hd : dp + 290 < recursionLimit) (hu : un + 200 < cLine) (hS : oS.IsDictOf (intKind prog w) (kvM σ)) (lo : (S == sysModules) = false) (hn : (σ.map (·.num)).Nodup) (hl : σ.length ≤ 3) (ok : ∀ c ∈ σ, c.Ok prog w)
    (hret : ∀ h' tk (D : Addr) (acc : List Value) (n : Nat) (cps : List Cp) (ns : List Int) (add : List (Addr × Obj)), Fr h₀ L h' m → News h₀ L h' ((D, listOf (List.toArray acc) n) :: (add ++ news)) → (∀ q ∈ add ++ news, q.1 ≠ D) → (∀ q ∈ add, ∀ p ∈ news, q.1 ≠ p.1) → acc = cps.map (fun cp => Value.ref cp.tup) → (∀ cp ∈ cps, cp.Ok w f (add ++ news)) →
      ns.Perm (σ.map (·.num)) → ns.Pairwise (· ≤ ·) → cps.map (·.c) = ns.filterMap (hitOf σ port way) → Q (.ref D) { s with heap := h', toks := tk }) :
    wpAny (model prog w) (ktrTop dp un gd cn cs L a ccd cl outer) (call (.ref 233) [.ref M, .int port tp, .str way tw, .ref f.inst]) Q E s := by
  have N := goal_ledger hm N0
  refine wpAny_call ?_
  k_dflt ktr_enter
  k_steps
  rename_i D hx l1 hy F1 N1 B2 h2 tk2 vs ns c2 F2 N2 hI hP hO l2
  unfold Stop
  refine kd_listI (Led := fun c : CpSt => [(D, listOf (List.toArray c.acc) c.n)]) (cst := (B2, listOf (List.toArray vs) c2) :: (M, instObj 236 dM) :: (dM, mirD w t1 t2 tm S nM) :: (S, oS) :: news) (ps := fun _ => []) (Facts := fun nw c => c.acc = c.cps.map (fun cp => Value.ref cp.tup) ∧ ∀ cp ∈ c.cps, cp.Ok w f nw) (stored := [Str.ofString "session"]) (P := fun pre c => c.cps.map (·.c) = pre.filterMap (hitOf σ port way)) (adr := D :: B2 :: M :: dM :: S :: news.map (·.1)) (c₀ := ⟨[], 0, []⟩) rfl (.head _) hI F2 N2 ?_ (fun _ => rfl) ⟨rfl, fun _ h => nomatch h⟩ (fun _ h => nomatch h) rfl ?_ ?_
  · intro q hq
    simp only [List.append_nil, List.cons_append, List.nil_append, List.mem_cons] at hq ⊢
    rcases hq with h | h | h | h | h | h <;> simp [h]
  · intro c tl pre post n t u h tk own e hmem sep hoff hFacts hPre F3 N3
    obtain ⟨cc, hcc, hnum⟩ : ∃ cc ∈ σ, cc.num = n := by
      have := hP.mem_iff.mp hmem
      simp only [kvM, List.map_map, List.mem_map, Function.comp] at this
      exact this
    subst hnum
    have hRD : ∀ q ∈ ((B2, listOf (List.toArray vs) c2) :: (M, instObj 236 dM) :: (dM, mirD w t1 t2 tm S nM) :: (S, oS) :: news) ++ (tl ++ own), q.1 ≠ D := by
      intro q hq
      rcases List.mem_append.mp hq with hq | hq
      · simp only [List.mem_cons] at hq
        rcases hq with rfl | rfl | rfl | rfl | hq
        · exact Nat.ne_of_gt l2.1
        · exact Nat.ne_of_lt l1.1
        · exact Nat.ne_of_lt l1.2.1
        · exact Nat.ne_of_lt l1.2.2.1
        · exact Nat.ne_of_lt (allLt_mem l1.2.2.2 q hq)
      · exact hoff q hq D (.head _)
    generalize hR : ((B2, listOf (List.toArray vs) c2) :: (M, instObj 236 dM) :: (dM, mirD w t1 t2 tm S nM) :: (S, oS) :: news) ++ (tl ++ own) = R at hRD N3
    have hsub : ∀ q ∈ news, q ∈ R := fun q hq => hR ▸ List.mem_append_left _ (by simp [hq])
    have hmemc : ∀ q ∈ cc.led w, q ∈ news := fun q hq => hm q (by simp only [List.mem_cons]; exact .inr (.inr (.inr (ledS_mem hcc q hq))))
    have N4 : News _ _ h ((D, listOf (List.toArray c.acc) c.n) :: (M, instObj 236 dM) :: (dM, mirD w t1 t2 tm S nM) :: (S, oS) :: (cc.inst, instObj 161 cc.dict) :: (cc.dict, sesD w cc) :: (cc.src, cc.so) :: R) := ledger_sub N3 (by
      intro q hq
      simp only [List.mem_cons, List.cons_append, List.nil_append] at hq ⊢
      rcases hq with h | h | h | h | h | h | h | h
      · exact .inl h
      · exact .inr (hsub q (hm q (by simp [h])))
      · exact .inr (hsub q (hm q (by simp [h])))
      · exact .inr (hsub q (hm q (by simp [h])))
      · exact .inr (hsub q (hmemc q (by simp [h, Ses.led])))
      · exact .inr (hsub q (hmemc q (by simp [h, Ses.led])))
      · exact .inr (hsub q (hmemc q (by simp [h, Ses.led])))
      · exact .inr h)
    have hRD' : ∀ q ∈ (M, instObj 236 dM) :: (dM, mirD w t1 t2 tm S nM) :: (S, oS) :: (cc.inst, instObj 161 cc.dict) :: (cc.dict, sesD w cc) :: (cc.src, cc.so) :: R, q.1 ≠ D := by
      intro q hq
      simp only [List.mem_cons] at hq
      rcases hq with h | h | h | h | h | h | h
      · exact hRD q (hsub q (hm q (by simp [h])))
      · exact hRD q (hsub q (hm q (by simp [h])))
      · exact hRD q (hsub q (hm q (by simp [h])))
      · exact hRD q (hsub q (hmemc q (by simp [h, Ses.led])))
      · exact hRD q (hsub q (hmemc q (by simp [h, Ses.led])))
      · exact hRD q (hsub q (hmemc q (by simp [h, Ses.led])))
      · exact hRD q h
    have hfR : ∀ q ∈ f.led w, q ∈ (M, instObj 236 dM) :: (dM, mirD w t1 t2 tm S nM) :: (S, oS) :: (cc.inst, instObj 161 cc.dict) :: (cc.dict, sesD w cc) :: (cc.src, cc.so) :: R := fun q hq => by
      simp only [List.mem_cons]
      exact .inr (.inr (.inr (.inr (.inr (.inr (hsub q (hf q hq)))))))
    obtain ⟨hso, -, -, htxt, hvl, hlo, -, hlen, -⟩ := ok cc hcc
    have hvl' : cc.vl = .none ∨ ∃ v t, cc.vl = .int v t := by
      rcases hvl with ⟨h1, _⟩ | ⟨v, t, _, h1, _⟩
      · exact .inl h1
      · exact .inr ⟨v, t, h1⟩
    have hhit : hitOf σ port way cc.num = if takesB cc port way = true then some cc else none := by
      unfold hitOf
      rw [find_nodup Ses.num σ hn cc hcc]
      by_cases h : takesB cc port way = true
      · rw [if_pos h]; simp [Option.filter, h]
      · rw [if_neg h]; simp [Option.filter, h]
    have hacc : c.acc.length ≤ 1000 := by
      rw [hFacts.1, List.length_map, ← List.length_map (f := Cp.c), hPre]
      have h1 := List.length_filterMap_le (hitOf σ port way) pre
      have h2 : ns.length = σ.length := by rw [hP.length_eq]; simp [kvM]
      rw [e, List.length_append] at h2
      omega
    have hstep : (pre ++ [cc.num]).filterMap (hitOf σ port way) = pre.filterMap (hitOf σ port way) ++ (if takesB cc port way = true then [cc] else []) := by
      rw [List.filterMap_append]
      congr 1
      simp only [List.filterMap_cons, List.filterMap_nil, hhit]
      by_cases h : takesB cc port way = true <;> simp [h]
    clear N3 N2 N1 N
    cases hval : valueAt cc.kv port with
    | none =>
      k_steps
      refine kd_end c [] sep (by assumption) (by assumption) ?_ ?_ rfl (fun _ h => nomatch h) (fun _ h => nomatch h) (fun _ h => nomatch h) ?_ hFacts ?_
      · intro q hq
        simp only [List.cons_append, List.nil_append] at hq
        rcases List.mem_cons.mp hq with rfl | hq
        · exact .head _
        · exact mem7 (hR ▸ (by simp only [List.cons_append, List.mem_cons, List.mem_append] at hq ⊢; rcases hq with h | h | h | h | h | h <;> simp [h]))
      · exact fun q hq => mem7 (hR ▸ List.mem_append_right _ (List.mem_append_right _ hq))
      · intro z hz _ hs
        exact stored_back hz hs
      · rw [hstep, hPre, if_neg (by simp [takesB, hval])]; simp
    | some vv =>
      obtain ⟨x, tx, rfl⟩ : ∃ x tx, vv = .str x tx := by
        unfold valueAt at hval
        cases hfi : cc.kv.find? fun p => p.1 = port with
        | none => rw [hfi] at hval; cases hval
        | some pr =>
          rw [hfi] at hval
          cases hval
          exact htxt pr (List.mem_of_find?_eq_some hfi)
      k_steps
      · rename_i hTest g2 tkk f' add hlt hled hcop hod T h5 F5 N5 hl h6 F6 N6
        have hTall : ∀ q ∈ add ++ ((M, instObj 236 dM) :: (dM, mirD w t1 t2 tm S nM) :: (S, oS) :: (cc.inst, instObj 161 cc.dict) :: (cc.dict, sesD w cc) :: (cc.src, cc.so) :: R), q.1 < T := allLt_mem hl.2
        have hbase : ∀ b ∈ D :: B2 :: M :: dM :: S :: news.map (·.1), b = D ∨ ∃ o, (b, o) ∈ R := by
          intro b hb
          simp only [List.mem_cons, List.mem_map] at hb
          rcases hb with h | h | h | h | h | ⟨q, hq, h⟩
          · exact .inl h
          · exact .inr ⟨_, hR ▸ List.mem_append_left _ (by rw [h]; exact .head _)⟩
          · exact .inr ⟨_, hR ▸ List.mem_append_left _ (by rw [h]; exact .tail _ (.head _))⟩
          · exact .inr ⟨_, hR ▸ List.mem_append_left _ (by rw [h]; exact .tail _ (.tail _ (.head _)))⟩
          · exact .inr ⟨_, hR ▸ List.mem_append_left _ (by rw [h]; exact .tail _ (.tail _ (.tail _ (.head _))))⟩
          · exact .inr ⟨q.2, h ▸ hsub q hq⟩
        refine kd_end ⟨c.acc ++ [.ref T], c.n + 1, c.cps ++ [⟨cc, T, f'⟩]⟩ ((T, tupO [.int cc.goal cc.gt, .ref f'.inst]) :: add) sep (by assumption) N6 ?_ ?_ rfl ?_ ?_ (fun _ h => nomatch h) ?_ ?_ ?_
        · intro q hq
          simp only [List.cons_append, List.nil_append, List.mem_cons, List.mem_append] at hq
          rcases hq with h | h | h | h | h | h | h | h | h
          · exact .tail _ (by rw [h]; exact .head _)
          · exact memA7 (hR ▸ List.mem_append_left _ (by rw [h]; exact .head _))
          · exact memA7 (hR ▸ List.mem_append_left _ (by rw [h]; exact .tail _ (.head _)))
          · exact memA7 (hR ▸ List.mem_append_left _ (by rw [h]; exact .tail _ (.tail _ (.head _))))
          · exact memA7 (hR ▸ List.mem_append_left _ (by rw [h]; exact .tail _ (.tail _ (.tail _ (.head _)))))
          · exact memA7 (hsub q h)
          · rw [h]; exact .head _
          · exact .tail _ (.tail _ (List.mem_append_left _ h))
          · exact memA7 (hR ▸ List.mem_append_right _ (List.mem_append_left _ h))
        · exact fun q hq => memA7 (hR ▸ List.mem_append_right _ (List.mem_append_right _ hq))
        · intro q hq b hb
          rcases List.mem_cons.mp hq with rfl | hq
          · rcases hbase b hb with rfl | ⟨o, ho⟩
            · exact Nat.ne_of_lt hl.1
            · exact Nat.ne_of_lt (hTall _ (List.mem_append_right _ (mem6 ho)))
          · rcases hbase b hb with rfl | ⟨o, ho⟩
            · exact Nat.ne_of_lt (hlt q hq _ (.head _))
            · exact Nat.ne_of_lt (hlt q hq _ (.tail _ (mem6 ho)))
        · intro q hq p hp
          have hpR : p ∈ R := hR ▸ List.mem_append_right _ (List.mem_append_right _ hp)
          rcases List.mem_cons.mp hq with rfl | hq
          · exact Nat.ne_of_lt (hTall _ (List.mem_append_right _ (mem6 hpR)))
          · exact Nat.ne_of_lt (hlt q hq _ (.tail _ (mem6 hpR)))
        · intro z hz _ hs
          exact stored_back hz hs
        · have hold : ∀ q ∈ ((B2, listOf (List.toArray vs) c2) :: (M, instObj 236 dM) :: (dM, mirD w t1 t2 tm S nM) :: (S, oS) :: news) ++ tl, q ∈ ((B2, listOf (List.toArray vs) c2) :: (M, instObj 236 dM) :: (dM, mirD w t1 t2 tm S nM) :: (S, oS) :: news) ++ ((T, tupO [.int cc.goal cc.gt, .ref f'.inst]) :: add ++ tl) := fun q hq => kd_sub q hq
          refine ⟨?_, ?_⟩
          · simp only [hFacts.1, List.map_append, List.map_cons, List.map_nil]
          · intro cp hcp
            rcases List.mem_append.mp hcp with hcp | hcp
            · exact (hFacts.2 cp hcp).mono hold
            · rw [List.mem_singleton.mp hcp]
              refine ⟨kd_new (.head _), ?_, hcop⟩
              intro q hq
              have := hled q hq
              rcases List.mem_append.mp this with h | h
              · exact kd_new (.tail _ h)
              · exact hold q (List.mem_append_left _ (by simp [hf q h]))
        · show List.map Cp.c (c.cps ++ [({ c := cc, tup := T, f := f' } : Cp)]) = _
          rw [hstep, List.map_append, hPre, if_pos (by simpa [takesB, hval] using hTest)]
          rfl
      · rename_i hTest
        refine kd_end c [] sep (by assumption) (by assumption) ?_ ?_ rfl (fun _ h => nomatch h) (fun _ h => nomatch h) (fun _ h => nomatch h) ?_ hFacts ?_
        · intro q hq
          simp only [List.cons_append, List.nil_append] at hq
          rcases List.mem_cons.mp hq with rfl | hq
          · exact .head _
          · exact mem7 (hR ▸ (by simp only [List.cons_append, List.mem_cons, List.mem_append] at hq ⊢; rcases hq with h | h | h | h | h | h <;> simp [h]))
        · exact fun q hq => mem7 (hR ▸ List.mem_append_right _ (List.mem_append_right _ hq))
        · intro z hz _ hs
          exact stored_back hz hs
        · rw [hstep, hPre, if_neg (by simpa [takesB, hval] using hTest)]; simp
  · intro c tl u h tk ht hFacts hPre F3 N3
    k_steps
    refine hret _ _ D c.acc c.n c.cps ns ((B2, listOf (List.toArray vs) c2) :: tl) (by assumption) (ledger_sub (by assumption) ?_) ?_ ?_ hFacts.1 ?_ (by rw [kvM, List.map_map] at hP; exact hP) hO hPre
    · intro q hq
      simp only [List.cons_append, List.nil_append, List.mem_cons, List.mem_append] at hq ⊢
      rcases hq with h | h | h | h
      · exact .inl h
      · exact .inr (.inl h)
      · exact .inr (.inr (.inr (.inr (.inr (.inr h)))))
      · exact .inr (.inr (.inr (.inr (.inr (.inl h)))))
    · intro q hq
      simp only [List.cons_append, List.mem_cons, List.mem_append] at hq
      rcases hq with h | h | h
      · rw [h]; exact Nat.ne_of_gt l2.1
      · exact ht q h D (.head _)
      · exact Nat.ne_of_lt (allLt_mem l1.2.2.2 q h)
    · intro q hq p hp
      rcases List.mem_cons.mp hq with rfl | hq
      · exact Nat.ne_of_gt (allLt_mem l2.2.2.2.2 p hp)
      · exact ht q hq p.1 (by simp only [List.mem_cons, List.mem_map]; exact .inr (.inr (.inr (.inr (.inr ⟨p, hp, rfl⟩)))))
    · intro cp hcp
      refine (hFacts.2 cp hcp).mono fun q hq => ?_
      simp only [List.cons_append, List.mem_cons, List.mem_append] at hq ⊢
      rcases hq with h | h | h | h | h | h
      · exact .inl h
      · exact .inr (.inr (hm q (by simp [h])))
      · exact .inr (.inr (hm q (by simp [h])))
      · exact .inr (.inr (hm q (by simp [h])))
      · exact .inr (.inr h)
      · exact .inr (.inl h)

end
end Mine
end

section
open PySem PySem.W PyProof.Rows PySem.Calls PyProof.Rows.LCg PyProof.Rows.LCt
set_option Elab.async false
set_option maxRecDepth 100000
set_option maxHeartbeats 8000000
namespace Mine
theorem lnL3_0 : True := by
  k_with_none
  w_top off
  k_with "pk" => first | exact pk1 | exact pk2 | exact pk3 | exact pk4 | (refine pkS ?_; k_extra "pk")
  k_with "ne" => (refine neN ?_; (try dsimp only); with_reducible first | assumption | exact .symm (by assumption) | exact pk2 (by assumption) | exact pk4 (by assumption) | (refine pkH (by assumption) ?_; k_extra "pk") | (refine pkL (by assumption) ?_; k_extra "pk") | fail)
  k_with "room" => first | exact rmA (by assumption) rfl | exact rmB (by assumption) rfl | exact rmC (by assumption) rfl | fail
  trivial
section
variable {prog : Program} {w : World} {A : Around} {E : Value → Shared → Prop} {s : Shared} {h₀ : Heap} {L : Addr} {m : Str → Option Value} {env : Env}

noncomputable def tagDat (g : Tg) : Dat := .tuple [.int g.kd, .int g.pr, .bool g.md, .int g.vl]
noncomputable def tagRow (T : Addr) (g : Tg) (n : Nat) : Addr × Obj := (T, { cls := .type "tuple", data := .seq #[.int g.kd g.k1, .int g.pr g.k2, .bool g.md, .int g.vl g.k4] n })
theorem vw_tag {news : List (Addr × Obj)} {T : Addr} {g : Tg} {n : Nat} (h : tagRow T g n ∈ news) : Vw news 1 (.ref T) (tagDat g) := by
  refine .tuple h rfl rfl rfl ?_
  intro j v x hv hx
  match j with
  | 0 => cases hv; cases hx; exact .int _ _
  | 1 => cases hv; cases hx; exact .int _ _
  | 2 => cases hv; cases hx; exact .bool _
  | 3 => cases hv; cases hx; exact .int _ _
  | n + 4 => simp at hx

noncomputable def RowsIn (news : List (Addr × Obj)) (ys : List Value) (gs : List Tg) : Prop := ys.length = gs.length ∧ ∀ (j : Nat) v g, ys[j]? = some v → gs[j]? = some g → Vw news 1 v (tagDat g)
theorem RowsIn.snoc {news news' : List (Addr × Obj)} {ys : List Value} {gs : List Tg} {v : Value} {g : Tg} (h : RowsIn news ys gs) (hs : ∀ q ∈ news, q ∈ news') (hv : Vw news' 1 v (tagDat g)) : RowsIn news' (ys ++ [v]) (gs ++ [g]) := by
  refine ⟨by simp [h.1], fun j v' g' h1 h2 => ?_⟩
  by_cases hj : j < ys.length
  · rw [List.getElem?_append_left hj] at h1
    rw [List.getElem?_append_left (h.1 ▸ hj)] at h2
    exact (h.2 j v' g' h1 h2).mono hs
  · rw [List.getElem?_append_right (Nat.le_of_not_lt hj)] at h1
    rw [List.getElem?_append_right (Nat.le_of_not_lt (h.1 ▸ hj)), ← h.1] at h2
    match hk : j - ys.length with
    | 0 => rw [hk] at h1 h2; cases h1; cases h2; exact hv
    | k + 1 => rw [hk] at h1; simp at h1

noncomputable def RowTurn (prog : Program) (w : World) (A : Around) (h₀ : Heap) (L : Addr) (m : Str → Option Value) (env : Env) (elt : PySem.Expr) (scope : Scope) (cl : List (Str × Addr)) (s : Shared) (S : List (Addr × Obj) → Prop) (nw : List (Addr × Obj)) (g : Tg) (I : Addr) (oI : Obj) (C : Addr) (oC : Obj) (D : Addr) (oD : Obj) (E' : Value → Shared → Prop) : Prop :=
  wpAny (model prog w) A (eval elt (compEnvC scope cl C env)) (CompEnd h₀ L m s I oI C oC D oD S (fun y news' => ∃ T n, y = .ref T ∧ news' = tagRow T g n :: nw ∧ ∀ p ∈ nw, p.1 < T)) E' s

noncomputable def TSrcA (prog : Program) (w : World) (A : Around) (h₀ : Heap) (L : Addr) (m : Str → Option Value) (env : Env) (elt : PySem.Expr) (x y : Str) (scope : Scope) (cl : List (Str × Addr)) (Q : Flow → Shared → Prop) (xv : Value) (s₁ : Shared) : Prop :=
  ∃ (ax : Addr) (gs : List Tg) (news : List (Addr × Obj)), xv = .ref ax ∧ A.handled = none ∧ Fr h₀ L s₁.heap m ∧ News h₀ L s₁.heap news ∧ (ax, tupO (gs.map fun g => Value.ref g.inst)) ∈ news ∧ gs.length ≤ 100 ∧
    (∀ g I oI C oC D m₂ ys h tk E' add, g ∈ gs → NsObj oC m₂ → m₂ x = some (.ref g.inst) → Fr h₀ L h m → News h₀ L h ((I, oI) :: (C, oC) :: (D, lst ys) :: (add ++ news)) → Off3 I C D (add ++ news) → ((@Ne Nat I C) ∧ (@Ne Nat I D) ∧ (@Ne Nat C D)) →
      RowTurn prog w A h₀ L m env elt scope cl { s₁ with heap := h, toks := tk } (fun nw => (ax, tupO (gs.map fun g => Value.ref g.inst)) ∈ nw) (add ++ news) g I oI C oC D (lst ys) E') ∧
    (∀ ys D h tk add, RowsIn add ys gs → Fr h₀ L h (fun z => if z = y then some (.ref D) else m z) → News h₀ L h ((D, lst ys) :: (add ++ news)) → Off1 D (add ++ news) → (∀ q ∈ add, ∀ p ∈ news, p.1 < q.1) → Q .next { s₁ with heap := h, toks := tk })

theorem assign_rows {elt iter : PySem.Expr} {x y : Str} {px py : Pos} {scope : Scope} {cl : List (Str × Addr)} {pos spos : Pos} {Q : Flow → Shared → Prop} (_F₀ : Fr h₀ L s.heap m) (hLe : env.locals = L)
    (hsw : swapsWith (.ListComp elt [⟨.Name x px, iter, [], 0⟩] scope pos) (some (.Name y py)) spos.line env = pure true)
    (hclos : closureFor scope env = pure cl) (hcell : ∀ z ∈ scope.names, z.2 ≠ .cell) (hkind : scope.kind = .function)
    (hnames : ∀ z ∈ scope.names, z.2 = .local → scope.names.lookup z.1 = some .local) (hx : scope.names.lookup x = some .local)
    (hy : env.kindOf y = some .local) (hp : (env.scope.kind == .class || (env.scope.kind == .module && env.locals != env.globals)) = false)
    (h : wpAny (model prog w) A (eval iter env) (TSrcA prog w A h₀ L m env elt x y scope cl Q) E s)
    (hs : ∀ x, foldedSetIterable iter env x = pure x := by intro _; rfl) :
    wpAny (model prog w) A (exec (.Assign [.Name y py] (.ListComp elt [⟨.Name x px, iter, [], 0⟩] scope pos) spos) env) Q E s := by
  subst hLe
  rw [exec_Assign_Name_used _ _ _ _ hsw]
  refine wpAny_bind (wpAny_standAt (wpAny_bind ?_))
  show wpAny _ A (do let _ ← comprehension (.ListComp elt [⟨.Name x px, iter, [], 0⟩] scope pos) scope env _ (newList []) false (eval iter env) (some (assign (.Name y py) env))) _ _ s
  refine wpAny_bind (wpAny_mono (wpAny_comprehension_free (use := some (assign (.Name y py) env)) (Q := fun _ s' => Q .next s') rfl hs hclos hkind hnames
    (wpAny_mono h (fun xv s₁ h₁ => ?_) fun _ _ e => e)) (fun _ s' hq => wpAny_pure (wpAny_pure hq)) fun _ _ e => e)
  obtain ⟨ax, gs, news, rfl, hh, F, N, hm, hlen, turn, fin⟩ := h₁
  have hl : s₁.heap.IsTuple ax (gs.map fun g => Value.ref g.inst).toArray := ⟨_, (N _ hm).1, rfl, _, rfl⟩
  have hlt : ax < s₁.heap.objs.size := Heap.lt_size (N _ hm).1
  have R : ∀ H : Heap, CompRest prog w A h₀ env.locals m env elt x scope cl { s₁ with heap := H } (fun nw => (ax, tupO (gs.map fun g => Value.ref g.inst)) ∈ nw) (fun i v => (gs.map fun g => Value.ref g.inst).toArray[i]? = some v)
      (fun ys nw => ∃ add, nw = add ++ news ∧ RowsIn add ys gs ∧ ∀ q ∈ add, ∀ p ∈ news, p.1 < q.1) gs.length 0 [] news := by
    intro H
    have key : ∀ (j i : Nat) (ys : List Value) (add : List (Addr × Obj)), i + j = gs.length → RowsIn add ys (gs.take i) → (∀ q ∈ add, ∀ p ∈ news, p.1 < q.1) →
        CompRest prog w A h₀ env.locals m env elt x scope cl { s₁ with heap := H } (fun nw => (ax, tupO (gs.map fun g => Value.ref g.inst)) ∈ nw) (fun i v => (gs.map fun g => Value.ref g.inst).toArray[i]? = some v)
          (fun ys nw => ∃ add, nw = add ++ news ∧ RowsIn add ys gs ∧ ∀ q ∈ add, ∀ p ∈ news, p.1 < q.1) j i ys (add ++ news) := by
      intro j
      induction j with
      | zero =>
        intro i ys add hi hr ha
        obtain rfl : i = gs.length := by omega
        rw [List.take_length] at hr
        exact CompRest.zero ⟨add, rfl, hr, ha⟩
      | succ j ih =>
        intro i ys add hi hr ha
        refine CompRest.succ ?_
        intro v I oI C oC D m₂ h tk E' hv hC hx F' N' off ne
        obtain ⟨g, hg⟩ : ∃ g, gs[i]? = some g := ⟨gs[i]'(by omega), List.getElem?_eq_getElem (by omega)⟩
        have hv' : v = .ref g.inst := by
          have : (gs.map fun g => Value.ref g.inst)[i]? = some v := by simpa using hv
          rw [List.getElem?_map, hg] at this
          exact (Option.some.inj this).symm
        subst hv'
        refine wpAny_mono (turn g I oI C oC D m₂ ys h tk E' add (List.mem_of_getElem? hg) hC hx F' N' off ne) (fun y s₄ hr' => ?_) fun _ _ e => e
        obtain ⟨h', tk', nw, e, F₂, N₂, off₂, hS, T, n, rfl, rfl, hT⟩ := hr'
        refine ⟨h', tk', _, e, F₂, N₂, off₂, hS, ?_⟩
        refine ih (i + 1) _ (tagRow T g n :: add) (by omega) ?_ ?_
        · rw [List.take_add_one, hg]
          exact hr.snoc (fun q hq => .tail _ hq) (vw_tag (.head _))
        · intro q hq p hp
          rcases List.mem_cons.mp hq with rfl | hq
          · exact hT p (List.mem_append_right _ hp)
          · exact ha q hq p hp
    exact key gs.length 0 [] [] (by omega) ⟨rfl, fun j v g h1 _ => by simp at h1⟩ fun _ h => nomatch h
  refine wpAny_pyIter_tuple hl ?_
  have up : ∀ b o, s₁.heap.get? b = some o → (s₁.heap.push { cls := .type "tuple_iterator", data := .fields #[.ref ax, .int 0 0] }).get? b = some o := fun b o e => Heap.get?_push_of_some _ e
  have W := Walks.tuple (prog := prog) (w := w) hh s₁.heap.objs.size ax (Nat.ne_of_lt hlt) (gs.map fun g => Value.ref g.inst).toArray
  rw [show (gs.map fun g => Value.ref g.inst).toArray.size = gs.length from by simp] at W
  refine block_U (S := fun nw => (ax, tupO (gs.map fun g => Value.ref g.inst)) ∈ nw) (s₂ := { s₁ with heap := s₁.heap.push { cls := .type "tuple_iterator", data := .fields #[.ref ax, .int 0 0] } }) W (by rw [PySem.sizeLine_eq]; omega) (fun i h st => by obtain ⟨o, e, _⟩ := st.1; exact ⟨o, e⟩) (fun i h h' o nw st e e' k N' hS => ⟨by obtain ⟨o', q, r⟩ := st.1; rw [e] at q; cases q; exact ⟨o, e', r⟩, ⟨_, (N' _ hS).1, rfl, _, rfl⟩⟩) hcell hkind hx ⟨⟨_, Heap.get?_push_size _ rfl, rfl, rfl⟩, ⟨_, up _ _ (N _ hm).1, rfl, _, rfl⟩⟩ (fun b hb => ?_)
    (F.keeps up) (N.grown up) (Nat.ne_of_lt F.ns.lt) (next_is_new F) (fun p hp => Nat.ne_of_lt (Heap.lt_size (N p hp).1)) hm (R _) ?_
  · show b < (s₁.heap.push _).objs.size
    rw [Heap.size_push]
    rcases List.mem_cons.mp hb with rfl | hb
    · exact Nat.lt_succ_self _
    · rw [List.mem_singleton.mp hb]; exact Nat.lt_succ_of_lt hlt
  · intro D C h' tk m' ys news' F' N' o1 hn hC₀ hD₀ hCL hDL hCD offC hfin
    obtain ⟨add, rfl, hrows, hadd⟩ := hfin
    show wpAny _ A (assign (.Name y py) env (.ref D)) _ _ _
    refine wpAny_assign_Name (wpAny_storeName_local hy F'.ns (fun h₂ hn₂ hs₂ => ?_) hp)
    have hL₀ : h₀.get? env.locals = none := Heap.get?_none_of_le F'.above
    have F₂ : Fr h₀ env.locals h₂ (fun z => if z = y then some (.ref D) else m z) := ⟨hn₂, fun b o e => hs₂.extBut b o (fun q => by rw [q, hL₀] at e; cases e) (F'.keep b o e), F'.above⟩
    refine ⟨m', hn.sameBut hs₂ hCL, fun h'' hs'' => fin ys D h'' _ add hrows (F₂.change hs'' hCL hC₀) (fun p hp => ?_) o1 hadd⟩
    have z : h₂.get? p.1 = some p.2 := hs₂.extBut _ _ (N' p hp).2.1 (N' p hp).1
    refine ⟨hs''.extBut _ _ ?_ z, (N' p hp).2⟩
    rcases List.mem_cons.mp hp with rfl | hp
    · exact Ne.symm hCD
    · exact offC p hp
end
end Mine
end

section
open PySem PySem.W PyProof.Rows PySem.Calls PyProof.Rows.LCg PyProof.Rows.LCt
set_option Elab.async false
set_option maxRecDepth 100000
set_option maxHeartbeats 8000000
namespace Mine
theorem lnF1_0 : True := by
  k_with_none
  w_top off
  k_with "pk" => first | exact pk1 | exact pk2 | exact pk3 | exact pk4 | (refine pkS ?_; k_extra "pk")
  k_with "ne" => (refine neN ?_; (try dsimp only); with_reducible first | assumption | exact .symm (by assumption) | exact pk2 (by assumption) | exact pk4 (by assumption) | (refine pkH (by assumption) ?_; k_extra "pk") | (refine pkL (by assumption) ?_; k_extra "pk") | fail)
  k_with "room" => first | exact rmA (by assumption) rfl | exact rmB (by assumption) rfl | exact rmC (by assumption) rfl | fail
  trivial
section
variable {prog : Program} {w : World} {p : Program} {loose : List Str} {mean : ExcName → Option Value} {mg mb : Str → Option Value} {dp un : Nat} {gd : Option (List Code)} {cn : Str} {cs : Scope} {a : Addr} {ccd : Value} {cl : List (Str × Addr)} {outer : List Env} {A₀ : Around} {base h₀ : Heap} {L : Addr} {m : Str → Option Value} {s : Shared} {Q E : Value → Shared → Prop} {news : List (Addr × Obj)}



theorem lnF1_1 : True := by
  k_with "exec Raise some none" => (k_here; k_dflt (refine raise_own (by rfl) ?_))
  k_with "call ref" => (k_here; (with_reducible show wpAny _ _ (call (Value.ref 51) _) _ _ _); (refine' exc_make ?BQ114 ?FQ114 ?XQ114 ?NQ114 ?TQ114 ?kQ114 ?dQ114 ?uQ114 ?_; (case BQ114 => k_asm); (case FQ114 => k_asm); (case XQ114 => k_asm); (case NQ114 => k_asm); (case TQ114 => k_asm); (case kQ114 => first | exact rfl | assumption); (case dQ114 => ktr_room); (case uQ114 => ktr_units)); intro h' tk' e' t1' d1' F' N' o1' o2' o3'; revert h' tk' e' t1' d1' F' N' o1' o2' o3'; intro _ _ _ _ _ _ _ _ _ _)
  k_with "RaisableX" => (k_here; refine ⟨_, _, _, rfl, (‹News _ _ _ ((_, excOd _ _) :: _)› _ (.head _)).1, rfl, rfl, rfl, Frag.In.keeps (by k_asm) (Fr.keep (by k_asm)), ?_⟩)
  k_with "leaving ref" => (k_here; (refine' leave_raiseZ ?BQ116 ?FQ116 ?NQ116 ?o1Q116 ?o2Q116 ?o3Q116 ?_; (case BQ116 => k_asm); (case FQ116 => k_asm); (case NQ116 => k_asm); (case o1Q116 => assumption); (case o2Q116 => assumption); (case o3Q116 => assumption)); intro h' R' U'; (try dsimp only at R' U' ⊢); revert h' R' U'; intro _ _ _)
  k_with "leaving ref" => (k_here; (refine' leave_onS ?k1Q117 ?k2Q117 ?k3Q117 ?k4Q117 ?_; (case k3Q117 => assumption); (case k1Q117 => assumption); (case k4Q117 => assumption); (case k2Q117 => assumption); k_whole; intro h' R' K' U'; (try dsimp only at R' U' ⊢); revert h' R' K' U'; intro _ _ _ _))
  k_with "exec Assign cons ListComp" => (k_here; k_dflt (refine assign_rows (by k_asm) (by with_unfolding_all rfl) (by with_unfolding_all rfl) (by with_unfolding_all rfl) (by decide) (by rfl) (by decide) (by rfl) (by rfl) (by rfl) ?_))
  trivial
noncomputable def frmDat (f : Frm) : Dat := .list [.int f.v1, .int f.v2, .list (f.tags.map tagDat), .int f.v4, .leaf (.bytes f.v5 f.k5)]

noncomputable abbrev partsO (f : Frm) (T : Addr) : Obj := listOf #[.int f.v1 f.k1, .int f.v2 f.k2, .ref T, .int f.v4 f.k4, .bytes f.v5 f.k5] 0
theorem vw_rows {nw : List (Addr × Obj)} {T : Addr} {ys : List Value} {n : Nat} {gs : List Tg} (h : (T, listOf (List.toArray ys) n) ∈ nw) (r : RowsIn nw ys gs) : Vw nw 2 (.ref T) (.list (gs.map tagDat)) := by
  refine .list h rfl rfl (by simp [r.1]) ?_
  intro j v x hv hx
  rw [List.getElem?_map] at hx
  cases hg : gs[j]? with
  | none => rw [hg] at hx; cases hx
  | some g =>
    rw [hg] at hx
    cases hx
    exact r.2 j v g (by simpa using hv) hg
theorem vw_parts {nw : List (Addr × Obj)} {P T : Addr} {ys : List Value} {n : Nat} {f : Frm} (h : (P, partsO f T) ∈ nw) (hT : (T, listOf (List.toArray ys) n) ∈ nw) (r : RowsIn nw ys f.tags) : Vw nw 3 (.ref P) (frmDat f) := by
  refine .list h rfl rfl rfl ?_
  intro j v x hv hx
  match j with
  | 0 => cases hv; cases hx; exact (Vw.int _ _).le (by omega)
  | 1 => cases hv; cases hx; exact (Vw.int _ _).le (by omega)
  | 2 => cases hv; cases hx; exact vw_rows hT r
  | 3 => cases hv; cases hx; exact (Vw.int _ _).le (by omega)
  | 4 => cases hv; cases hx; exact (Vw.leaf _ (fun a e => by cases e)).le (by omega)
  | n + 5 => simp at hx

theorem tg_mem {f : Frm} {w : World} {g : Tg} (hg : g ∈ f.tags) : ∀ q ∈ Tg.led w g, q ∈ f.led w := fun q hq => .tail _ (.tail _ (.tail _ (List.mem_flatMap.mpr ⟨g, hg, hq⟩)))

theorem parts_spec {f : Frm}
    (B : Below A₀ base outer h₀) (F : Fr h₀ L s.heap m) (X : (pre.heap_1 w.params).In h₀) (N0 : News h₀ L s.heap news) (T : Top p loose mean mg mb h₀) (hk : cs.kind = .function)
    (hf : ∀ q ∈ f.led w, q ∈ news) (hft : f.tags.length ≤ 100)
    (hd : dp + 260 < recursionLimit) (hu : un + 120 < cLine)
    (hret : ∀ h' tk (P T : Addr) (ys : List Value) (nT : Nat) (add : List (Addr × Obj)), Fr h₀ L h' m → News h₀ L h' ((P, partsO f T) :: (T, listOf (List.toArray ys) nT) :: (add ++ news)) → RowsIn add ys f.tags →
      (∀ q ∈ (P, partsO f T) :: (T, listOf (List.toArray ys) nT) :: add, ∀ p ∈ news, p.1 ≠ q.1) → Q (.ref P) { s with heap := h', toks := tk }) :
    wpAny (model prog w) (ktrTop dp un gd cn cs L a ccd cl outer) (call (.ref 266) [.ref f.inst]) Q E s := by
  have N : News h₀ L s.heap ((f.inst, instObj 111 f.dict) :: (f.dict, frmD w f) :: (f.tup, tupO (f.tags.map fun t => .ref t.inst)) :: news) := head_ledger (fun q hq => hf q (List.mem_append_left (f.tags.flatMap (Tg.led w)) hq)) N0
  refine wpAny_call ?_
  k_dflt ktr_enter
  k_steps
  refine ⟨f.tup, f.tags, _, rfl, rfl, by assumption, by assumption, by k_mem, hft, ?_, ?_⟩
  · intro g I oI C oC D m₂ ys h tk E' add hg hC hx F2 N2 off ne
    unfold RowTurn
    have N3 : News _ _ _ ((I, oI) :: (C, oC) :: (D, LCg.lst ys) :: (g.inst, instObj 77 g.dict) :: (g.dict, tagD w g) :: (add ++ ((f.inst, instObj 111 f.dict) :: (f.dict, frmD w f) :: (f.tup, tupO (f.tags.map fun t => .ref t.inst)) :: news))) := ledger_sub N2 (by
      intro q hq
      simp only [List.mem_cons, List.mem_append] at hq ⊢
      rcases hq with h | h | h | h | h | h
      · exact .inl h
      · exact .inr (.inl h)
      · exact .inr (.inr (.inl h))
      · exact .inr (.inr (.inr (.inr (.inr (.inr (.inr (hf q (tg_mem hg q (by simp [h])))))))))
      · exact .inr (.inr (.inr (.inr (.inr (.inr (.inr (hf q (tg_mem hg q (by simp [h])))))))))
      · exact .inr (.inr (.inr h)))
    k_steps
    rename_i T h5 F5 N5 l5
    refine ⟨h5, _, tagRow T g 0 :: (add ++ ((f.inst, instObj 111 f.dict) :: (f.dict, frmD w f) :: (f.tup, tupO (f.tags.map fun t => .ref t.inst)) :: news)), rfl, by assumption, ledger_sub N5 ?_, ⟨⟨Nat.ne_of_gt l5.1, Nat.ne_of_gt l5.2.1, Nat.ne_of_gt l5.2.2.1⟩, off⟩, ?_, T, 0, rfl, rfl, allLt_mem l5.2.2.2.2.2⟩
    · intro q hq
      simp only [List.mem_cons] at hq ⊢
      rcases hq with h | h | h | h | h
      · exact .inr (.inl h)
      · exact .inr (.inr (.inl h))
      · exact .inr (.inr (.inr (.inl h)))
      · exact .inl h
      · exact .inr (.inr (.inr (.inr (.inr (.inr h)))))
    · exact .tail _ (List.mem_append_right _ (.tail _ (.tail _ (.head _))))
  · intro ys D h tk add hrows F3 N3 o1 hadd
    have N4 : News _ _ h ((D, listOf (List.toArray ys) ys.length) :: (f.inst, instObj 111 f.dict) :: (f.dict, frmD w f) :: (add ++ news)) := ledger_sub N3 (by
      intro q hq
      simp only [List.mem_cons, List.mem_append] at hq ⊢
      rcases hq with h | h | h | h | h
      · exact .inl h
      · exact .inr (.inr (.inl h))
      · exact .inr (.inr (.inr (.inl h)))
      · exact .inr (.inl h)
      · exact .inr (.inr (.inr (.inr (.inr h)))))
    clear N3
    k_steps
    rename_i P h5 F5 N5 l5 F6 N6 T6 X6
    refine hret h5 _ P D ys ys.length add (by assumption) (ledger_sub N6 ?_) hrows ?_
    · intro q hq
      simp only [List.mem_cons, List.mem_append] at hq ⊢
      rcases hq with h | h | h | h
      · exact .inl h
      · exact .inr (.inl h)
      · exact .inr (.inr (.inr (.inr (.inl h))))
      · exact .inr (.inr (.inr (.inr (.inr h))))
    · intro q hq p hp
      rcases List.mem_cons.mp hq with rfl | hq
      · exact Nat.ne_of_lt (allLt_mem l5.2.2.2 p (List.mem_append_right _ hp))
      rcases List.mem_cons.mp hq with rfl | hq
      · exact off1_mem o1 p (List.mem_append_right _ (.tail _ (.tail _ (.tail _ hp))))
      · exact Nat.ne_of_lt (hadd q hq p (.tail _ (.tail _ (.tail _ hp))))

end
end Mine
end

section
open PySem PySem.W PyProof.Rows PySem.Calls
set_option Elab.async false
set_option maxRecDepth 100000
set_option maxHeartbeats 4000000
namespace Mine
theorem lnT0_0 : True := by
  k_with_none
  w_top off
  k_with "pk" => first | exact pk1 | exact pk2 | exact pk3 | exact pk4 | (refine pkS ?_; k_extra "pk")
  k_with "ne" => (refine neN ?_; (try dsimp only); with_reducible first | assumption | exact .symm (by assumption) | exact pk2 (by assumption) | exact pk4 (by assumption) | (refine pkH (by assumption) ?_; k_extra "pk") | (refine pkL (by assumption) ?_; k_extra "pk") | fail)
  k_with "room" => first | exact rmA (by assumption) rfl | exact rmB (by assumption) rfl | exact rmC (by assumption) rfl | fail
  trivial
section
variable {prog : Program} {w : World} {A₀ A : Around} {s : Shared} {base h₀ g₀ : Heap} {outer : List Env} {L : Addr} {m : Str → Option Value} {env : Env} {news : List (Addr × Obj)} {K : Frag} {p : Program} {loose : List Str} {mean : ExcName → Option Value} {mg mb : Str → Option Value}
    {R : Result → Shared → Prop} {name qual : Str} {params : Arguments} {body : List Stmt} {scope : Scope} {dV kV doc pm cdv ct oc : Value} {an od : Option Addr} {osl : Array (Option Value)} {f : Addr} {args : Args} {binds : List (Str × Value)}

theorem mem_frames {b : Addr} (hf : env.frame = some L) (hm : b ∈ (env :: outer).filterMap (·.frame)) : b = L ∨ b ∈ outer.filterMap (·.frame) := by
  obtain ⟨e, he, hb⟩ := List.mem_filterMap.mp hm
  rcases List.mem_cons.mp he with rfl | he
  · exact .inl (Option.some.inj (hb.symm.trans hf))
  · exact .inr (List.mem_filterMap.mpr ⟨e, he, hb⟩)

theorem enterX (B : Below A₀ base outer h₀) (F : Fr h₀ L s.heap m) (N : News h₀ L s.heap news) (hA : A.frames = some (env :: outer)) (hf : env.frame = some L) (hke : env.scope.kind = .function) :
    ∃ oL es ep, (hideAll s.heap (news.map (·.1))).get? L = some oL ∧ oL.data = .dict es ep ∧ (∀ h', h'.get? L = some oL → Heap.Ns h' L m) ∧ (∀ (sl : Array (Option Value)) h', h'.get? L = some { oL with slots := sl } → Heap.Ns h' L m) ∧
      h₀.StaysIn (hideAll s.heap (news.map (·.1))) ∧ Below A base (env :: outer) (hideAll s.heap (news.map (·.1))) := by
  have nm : ∀ b o, h₀.get? b = some o → b ∉ news.map (·.1) := fun b o e q => by
    obtain ⟨p, hp, rfl⟩ := List.mem_map.mp q
    rw [(N p hp).2.2] at e; cases e
  have st : h₀.StaysIn (hideAll s.heap (news.map (·.1))) := fun b o e => hideAll_get _ (F.keep b o e) (nm b o e)
  obtain ⟨oL, es, ep, hL, hLd, hLk, hLf⟩ := F.ns
  have nL : L ∉ news.map (·.1) := fun q => by
    obtain ⟨p, hp, e⟩ := List.mem_map.mp q
    exact (N p hp).2.1 e
  have hLg := hideAll_get (news.map (·.1)) hL nL
  have B₁ := pushX B F hf hke
  exact ⟨oL, es, ep, hLg, hLd, fun h' e => ⟨oL, es, ep, e, hLd, hLk, hLf⟩, fun sl h' e => ⟨_, es, ep, e, hLd, hLk, hLf⟩, st, ⟨hA, fun b o e => st b o (B.stays b o e), funFrames_hideAll B₁.frames fun env' he b hb hf' => by
    cases he with
    | head => exact nL ((Option.some.inj (hf.symm.trans hf') : L = b) ▸ hb)
    | tail _ he =>
      obtain ⟨L₁, o₁, hf₁, ho₁⟩ := funFrames_in B.frames env' he
      rw [hf₁] at hf'
      exact nm L₁ o₁ ho₁ ((Option.some.inj hf' : L₁ = b) ▸ hb)⟩⟩

/-- what a function gives back that has caught: the ground below may have other slots in the frames -/
noncomputable def BackS (fs : List Addr) (A₀ : Around) (base : Heap) (outer : List Env) (K : Frag) (p : Program) (loose : List Str) (mean : ExcName → Option Value) (mg mb : Str → Option Value) (h₀ : Heap) (L : Addr) (m : Str → Option Value) (g : Heap) (R : Result → Shared → Prop) (v : Value) (s' : Shared) : Prop :=
  ∃ g' L' m' news', KtsTurn fs g g' ∧ Fr g' L' s'.heap m' ∧ News g' L' s'.heap news' ∧ ∀ h₀', KtsTurn (outer.filterMap (·.frame)) h₀ h₀' → Fr h₀' L s'.heap m → News h₀' L s'.heap news' → Below A₀ base outer h₀' → K.In h₀' → Top p loose mean mg mb h₀' →
    KtsDicts (outer.filterMap (·.frame)) h₀' → R (.ok (.ret v)) s'

theorem back_turn (B : Below A₀ base outer h₀) (F : Fr h₀ L s.heap m) (XB : K.In base) (TB : Top p loose mean mg mb base) (D : KtsDicts (outer.filterMap (·.frame)) h₀) (hf : env.frame = some L)
    {oL : Obj} (hLg : (hideAll s.heap (news.map (·.1))).get? L = some oL) (hNs : ∀ (sl : Array (Option Value)) h', h'.get? L = some { oL with slots := sl } → Heap.Ns h' L m) (st : h₀.StaysIn (hideAll s.heap (news.map (·.1)))) {v : Value} {s' : Shared}
    (hl : BackS ((env :: outer).filterMap (·.frame)) A₀ base outer K p loose mean mg mb h₀ L m (hideAll s.heap (news.map (·.1))) R v s') : R (.ok (.ret v)) s' := by
  obtain ⟨g', L', m', news', T', F', N', k⟩ := hl
  have nL₀ : h₀.get? L = none := kts_self F
  obtain ⟨sl, hs⟩ := T'.up hLg
  obtain ⟨T₁, S₁⟩ := kts_turn_at (h := s'.heap) (fs := outer.filterMap (·.frame)) (g := h₀)
    (fun b hb => by
      obtain ⟨_, o, ho', _⟩ := B.frames.mem hb
      exact ⟨o, ho'⟩)
    (fun b o e nmem => F'.keep b o (T'.other b o (st b o e) (fun q => by
      rcases mem_frames hf q with z | z
      · rw [z, nL₀] at e
        cases e
      · exact nmem z)))
    (fun b o e _ => by
      obtain ⟨sl', hs'⟩ := T'.up (st b o e)
      exact ⟨sl', F'.keep _ _ hs'⟩)
  have B₃ : Below A₀ base outer (ktsHeap s'.heap (outer.filterMap (·.frame)) h₀) := ⟨B.stack, fun b o e => T₁.other b o (B.stays b o e) (fun hm => by
    rw [(B.frames.mem hm).1] at e
    cases e), B.frames.of_keeps fun b o e _ => by
    obtain ⟨sl', hs'⟩ := T₁.up e
    exact ⟨_, hs', rfl⟩⟩
  refine k _ T₁ ⟨hNs sl _ (F'.keep _ _ hs), S₁, by rw [T₁.size]; exact F.above⟩ (fun p hp => ⟨(N' p hp).1, fun q => ?_, ?_⟩) B₃ (XB.keeps B₃.stays) (TB.keeps B₃.stays) (D.turn T₁)
  · have := (N' p hp).2.2; rw [q, hs] at this; cases this
  · refine T₁.none_ _ ?_
    cases q : h₀.get? p.1 with
    | none => rfl
    | some o =>
      obtain ⟨sl', hs'⟩ := T'.up (st _ _ q)
      have := (N' p hp).2.2
      rw [hs'] at this
      cases this

theorem code_catch (B : Below A₀ base outer h₀) (F : Fr h₀ L s.heap m) (X₀ : K.In h₀) (N : News h₀ L s.heap news) (T : Top p loose mean mg mb h₀) (XB : K.In base) (TB : Top p loose mean mg mb base) (D : KtsDicts (outer.filterMap (·.frame)) h₀)
    (hA : A.frames = some (env :: outer)) (hf : env.frame = some L) (hke : env.scope.kind = .function)
    (ho : K.lookup f = some ⟨oc, od, .func (fnOf name qual params body scope dV kV doc pm an cdv ct), osl⟩) (hcd : codeIn K cdv qual = true) (hroom : A.depth < recursionLimit)
    (hbind : BindsTo s (fnOf name qual params body scope dV kV doc pm an cdv ct) args binds) (hloc : ∀ y ∈ binds, scope.names.lookup y.1 = some .local)
    (h : ∀ g L' h₁, Fr h₀ L g m → Fr g L' h₁ (fun y => binds.reverse.lookup y) → News g L' h₁ news → Below A base (env :: outer) g → K.In g → Top p loose mean mg mb g → KtsDicts ((env :: outer).filterMap (·.frame)) g →
      wpAny (model prog w) (A.deeper (envOf qual scope L' f cdv)) (execs body (envOf qual scope L' f cdv))
        (fun fl s' => BackS ((env :: outer).filterMap (·.frame)) A₀ base outer K p loose mean mg mb h₀ L m g R (match fl with | .ret v => v | _ => .none) s')
        (fun e s' => wpAny (model prog w) (A.deeper (envOf qual scope L' f cdv)) (leaving (envOf qual scope L' f cdv) e) (fun _ s'' => R (.error e) s'') (fun e' s'' => R (.error e') s'') s')
        { s with heap := h₁, toks := s.toks + binds.length })
    (hco : scope.isCoroutine = false) (hgen : scope.isGenerator = false) (hk : scope.kind = .function)
    (hcell : ∀ x ∈ scope.names, x.2 ≠ .cell) : codeAny (model prog w) A (.call (.ref f) args) R s := by
  have X := X₀.keeps F.keep
  refine codeAny_call_def (fd := fnOf name qual params body scope dV kV doc pm an cdv ct) (body := body) (binds := binds) hroom (X _ _ ho) rfl (T.nolimit.keeps F.keep) (codeRec_of X hcd) rfl hbind hcell hloc (fun h₁ hns hk₁ => ?_) hco hgen hk
  obtain ⟨oL, es, ep, hLg, hLd, hN, hNs, st, B₂⟩ := enterX B F N hA hf hke
  refine wpAny_mono (h _ s.heap.objs.size h₁ ⟨hN _ hLg, st, F.above⟩ ⟨hns, fun b o e => hk₁ b o (of_hideAll _ e), Nat.le_of_eq (hideAll_size _ _)⟩
    (fun p hp => ⟨hk₁ _ _ (N p hp).1, Nat.ne_of_lt (Heap.lt_size (N p hp).1), hideAll_none _ (List.mem_map_of_mem hp)⟩) B₂ (X₀.keeps st) (T.keeps st) (fun b hb => by
      rcases mem_frames hf hb with rfl | hb
      · exact ⟨oL, es, ep, hLg, hLd⟩
      · obtain ⟨o, es', n', ho', hd'⟩ := D b hb
        exact ⟨o, es', n', st b o ho', hd'⟩)) (fun fl s' hl => back_turn (news := news) B F XB TB D hf hLg hNs st hl) fun _ _ y => y
end
end Mine
end

section
open PySem PySem.W PyProof.Rows PySem.Calls PyProof.Rows.LCg PyProof.Rows.LCt
set_option Elab.async false
set_option maxRecDepth 100000
set_option maxHeartbeats 8000000
namespace Mine
theorem lnR1_0 : True := by
  k_with_none
  w_top off
  k_with "pk" => first | exact pk1 | exact pk2 | exact pk3 | exact pk4 | (refine pkS ?_; k_extra "pk")
  k_with "ne" => (refine neN ?_; (try dsimp only); with_reducible first | assumption | exact .symm (by assumption) | exact pk2 (by assumption) | exact pk4 (by assumption) | (refine pkH (by assumption) ?_; k_extra "pk") | (refine pkL (by assumption) ?_; k_extra "pk") | fail)
  k_with "room" => first | exact rmA (by assumption) rfl | exact rmB (by assumption) rfl | exact rmC (by assumption) rfl | fail
  trivial
section
variable {prog : Program} {w : World} {p : Program} {loose : List Str} {mean : ExcName → Option Value} {mg mb : Str → Option Value} {dp un : Nat} {gd : Option (List Code)} {cn : Str} {cs : Scope} {a : Addr} {ccd : Value} {cl : List (Str × Addr)} {outer : List Env} {A₀ : Around} {base h₀ : Heap} {L : Addr} {m : Str → Option Value} {s : Shared} {Q E : Value → Shared → Prop} {news : List (Addr × Obj)}


theorem lnR1_1 : True := by
  k_with "exec Raise some none" => (k_here; k_dflt (refine raise_own (by rfl) ?_))
  k_with "call ref" => (k_here; (with_reducible show wpAny _ _ (call (Value.ref 51) _) _ _ _); (refine' exc_make ?BQ120 ?FQ120 ?XQ120 ?NQ120 ?TQ120 ?kQ120 ?dQ120 ?uQ120 ?_; (case BQ120 => k_asm); (case FQ120 => k_asm); (case XQ120 => k_asm); (case NQ120 => k_asm); (case TQ120 => k_asm); (case kQ120 => first | exact rfl | assumption); (case dQ120 => ktr_room); (case uQ120 => ktr_units)); intro h' tk' e' t1' d1' F' N' o1' o2' o3'; revert h' tk' e' t1' d1' F' N' o1' o2' o3'; intro _ _ _ _ _ _ _ _ _ _)
  k_with "RaisableX" => (k_here; refine ⟨_, _, _, rfl, (‹News _ _ _ ((_, excOd _ _) :: _)› _ (.head _)).1, rfl, rfl, rfl, Frag.In.keeps (by k_asm) (Fr.keep (by k_asm)), ?_⟩)
  k_with "leaving ref" => (k_here; (refine' leave_raiseZ ?BQ122 ?FQ122 ?NQ122 ?o1Q122 ?o2Q122 ?o3Q122 ?_; (case BQ122 => k_asm); (case FQ122 => k_asm); (case NQ122 => k_asm); (case o1Q122 => assumption); (case o2Q122 => assumption); (case o3Q122 => assumption)); intro h' R' U'; (try dsimp only at R' U' ⊢); revert h' R' U'; intro _ _ _)
  k_with "leaving ref" => (k_here; (refine' leave_onS ?k1Q123 ?k2Q123 ?k3Q123 ?k4Q123 ?_; (case k3Q123 => assumption); (case k1Q123 => assumption); (case k4Q123 => assumption); (case k2Q123 => assumption); k_whole; intro h' R' K' U'; (try dsimp only at R' U' ⊢); revert h' R' K' U'; intro _ _ _ _))
  trivial
/-- a deed that is refused: in whatever frame it is called, it raises TableError and the ledger stays -/
noncomputable def Refuses (prog : Program) (w : World) (p : Program) (loose : List Str) (mean : ExcName → Option Value) (mg mb : Str → Option Value) (lam : Addr) (dmax umax : Nat) (news : List (Addr × Obj)) : Prop :=
  ∀ {dp un : Nat} {gd : Option (List Code)} {cn : Str} {cs : Scope} {a : Addr} {ccd : Value} {cl : List (Str × Addr)} {outer : List Env} {A₀ : Around} {base h₀ : Heap} {L : Addr} {m : Str → Option Value} {s : Shared} {Q E : Value → Shared → Prop},
    Below A₀ base outer h₀ → Fr h₀ L s.heap m → (pre.heap_1 w.params).In h₀ → News h₀ L s.heap news → Top p loose mean mg mb h₀ → cs.kind = .function → dp ≤ dmax → un ≤ umax →
    (∀ G h' tk e t vs, Fr h₀ L G m → RaisedS base G (envX cn cs L a ccd cl :: outer) e (.ref 51) t vs news h' → G.UpToSlots h' → E (.ref e) { s with heap := h', toks := tk }) →
    wpAny (model prog w) (ktrTop dp un gd cn cs L a ccd cl outer) (call (.ref lam) []) Q E s



theorem lnR1_2 : True := by
  k_with "callWith ref" => (k_here; k_dflt (refine' callWith_F0 ?k1Q124 ?_; (case k1Q124 => exact FnAt.of (by k_asm) (by assumption)); k_whole; try dsimp only [List.nil_append, List.cons_append]))
  k_with "call ref" => (k_here; (with_reducible rename Refuses _ _ _ _ _ _ _ _ _ _ _ => rfX); k_dflt (refine' rfX ?BQ125 ?FQ125 ?XQ125 ?NQ125 ?TQ125 ?kQ125 ?dQ125 ?uQ125 ?_; (case BQ125 => k_asm); (case FQ125 => k_asm); (case XQ125 => k_asm); (case NQ125 => k_asm); (case TQ125 => k_asm); (case kQ125 => exact rfl); (case dQ125 => exact Nat.le_trans (Nat.add_le_add_left (by decide : 1 ≤ 30) _) (by assumption)); (case uQ125 => exact Nat.le_trans (Nat.add_le_add_left (by decide : 3 ≤ 30) _) (by assumption))); intro G' h' tk' e' t' vs' F' R' U'; revert G' h' tk' e' t' vs' F' R' U'; intro _ _ _ _ _ _ _ _ _)
  trivial
theorem refused_spec {lam : Addr} {fd : FuncData} {dmax umax : Nat} (hlam : (lam, ({ cls := .type "function", data := .func fd } : Obj)) ∈ news)
    (B : Below A₀ base outer h₀) (F : Fr h₀ L s.heap m) (X : (pre.heap_1 w.params).In h₀) (N : News h₀ L s.heap news) (T : Top p loose mean mg mb h₀) (hk : cs.kind = .function)
    (XB : (pre.heap_1 w.params).In base) (TB : Top p loose mean mg mb base) (D : KtsDicts (outer.filterMap (·.frame)) h₀)
    (hd : dp + 210 < recursionLimit) (hu : un + 80 < cLine) (hd2 : dp + 30 ≤ dmax) (hu2 : un + 30 ≤ umax) (deed : Refuses prog w p loose mean mg mb lam dmax umax news)
    (hret : ∀ h₀' h' tk, KtsTurn (outer.filterMap (·.frame)) h₀ h₀' → Fr h₀' L h' m → News h₀' L h' news → Below A₀ base outer h₀' → (Mine.pre.heap_1 w.params).In h₀' → Top p loose mean mg mb h₀' → KtsDicts (outer.filterMap (·.frame)) h₀' → Q (.bool true) { s with heap := h', toks := tk }) :
    wpAny (model prog w) (ktrTop dp un gd cn cs L a ccd cl outer) (call (.ref 273) [.ref lam]) Q E s := by
  refine wpAny_call ?_
  k_dflt (refine' code_catch ?k1Q126 ?k2Q126 ?k3Q126 ?k4Q126 ?k5Q126 ?XBQ126 ?TBQ126 ?DQ126 ?kAQ126 ?kFQ126 ?kKQ126 ?k6Q126 ?k7Q126 ?k8Q126 ?k9Q126 ?kBQ126 ?_ ?c2Q126 ?c3Q126 ?c4Q126 ?c5Q126; (case kAQ126 => exact rfl); (case kFQ126 => exact rfl); (case kKQ126 => first | exact rfl | assumption); (case k1Q126 => k_asm); (case k2Q126 => k_asm); (case k3Q126 => k_asm); (case k4Q126 => k_asm); (case k5Q126 => k_asm); (case XBQ126 => assumption); (case TBQ126 => assumption); (case DQ126 => assumption); (case k6Q126 => k_is); (case k7Q126 => k_is); (case k8Q126 => ktr_room); (case k9Q126 => exact BindsTo.of_eq rfl); (case c5Q126 => decide); (case kBQ126 => exact locs rfl); (case c2Q126 => exact rfl); (case c3Q126 => exact rfl); (case c4Q126 => exact rfl); k_whole; intro g' L' h' FG' F' N' B' X' T' D'; (try dsimp only); (try k_fold); revert g' L' h' FG' F' N' B' X' T' D'; intro _ _ _ _ _ _ _ _ _ _)
  k_steps
  rename_i h5 g5 n5 T5 F5 N5 G5 N6 K5 X5 P5 D5
  exact ⟨g5, _, _, news, T5, F5, N6, fun h₀' a1 a2 a3 a4 a5 a6 a7 => hret h₀' _ _ a1 a2 a3 a4 a5 a6 a7⟩

end
end Mine
end

section
open PySem PySem.W PyProof.Rows PySem.Calls
set_option Elab.async false
set_option maxRecDepth 100000
set_option maxHeartbeats 4000000
namespace Mine
theorem lnT1_0 : True := by
  k_with_none
  w_top off
  k_with "pk" => first | exact pk1 | exact pk2 | exact pk3 | exact pk4 | (refine pkS ?_; k_extra "pk")
  k_with "ne" => (refine neN ?_; (try dsimp only); with_reducible first | assumption | exact .symm (by assumption) | exact pk2 (by assumption) | exact pk4 (by assumption) | (refine pkH (by assumption) ?_; k_extra "pk") | (refine pkL (by assumption) ?_; k_extra "pk") | fail)
  k_with "room" => first | exact rmA (by assumption) rfl | exact rmB (by assumption) rfl | exact rmC (by assumption) rfl | fail
  trivial
section
variable {prog : Program} {w : World} {A₀ A : Around} {s : Shared} {base h₀ g₀ : Heap} {outer : List Env} {L : Addr} {m : Str → Option Value} {env : Env} {news : List (Addr × Obj)} {K : Frag} {p : Program} {loose : List Str} {mean : ExcName → Option Value} {mg mb : Str → Option Value}
    {R : Result → Shared → Prop} {name qual : Str} {params : Arguments} {body : List Stmt} {scope : Scope} {dV kV doc pm cdv ct oc : Value} {an od : Option Addr} {osl : Array (Option Value)} {f : Addr} {args : Args} {binds : List (Str × Value)}

noncomputable def LeaveE (fs : List Addr) (A₀ : Around) (base : Heap) (outer : List Env) (K : Frag) (p : Program) (loose : List Str) (mean : ExcName → Option Value) (mg mb : Str → Option Value) (h₀ : Heap) (L : Addr) (m : Str → Option Value) (g : Heap) (R : Result → Shared → Prop) (v : Value) (s' : Shared) : Prop :=
  LeaveK h₀ L m g R v s' ∨ BackS fs A₀ base outer K p loose mean mg mb h₀ L m g R v s'

theorem code_catchC (B : Below A₀ base outer h₀) (F : Fr h₀ L s.heap m) (X₀ : K.In h₀) (N : News h₀ L s.heap news) (T : Top p loose mean mg mb h₀) (XB : K.In base) (TB : Top p loose mean mg mb base) (D : KtsDicts (outer.filterMap (·.frame)) h₀)
    (hA : A.frames = some (env :: outer)) (hf : env.frame = some L) (hke : env.scope.kind = .function)
    (ho : K.lookup f = some ⟨oc, od, .func (fnOf name qual params body scope dV kV doc pm an cdv ct), osl⟩) (hcd : codeIn K cdv qual = true) (hroom : A.depth < recursionLimit)
    (hbind : BindsTo s (fnOf name qual params body scope dV kV doc pm an cdv ct) args binds) (hkind : (binds.all fun y => scope.names.lookup y.1 == some .local || scope.names.lookup y.1 == some .cell) = true)
    (hnd : ((cellsFrom 0 scope.names []).map (·.1)).Nodup)
    (h : ∀ g L' h₁ tk cells, Fr h₀ L g m → Fr g L' h₁ (bindL (envOfC qual scope L' f cdv).kindOf binds fun _ => none) → News g L' h₁ (cells ++ news) →
      CellsAre (bindC (envOfC qual scope L' f cdv).kindOf binds fun _ => none) (cellsFrom (L' + 1) scope.names []) cells → Below A base (env :: outer) g → K.In g → Top p loose mean mg mb g → KtsDicts ((env :: outer).filterMap (·.frame)) g → (∀ p ∈ news, p.1 < L') →
      wpAny (model prog w) (A.deeper (envOfC qual scope L' f cdv)) (execs body (envOfC qual scope L' f cdv))
        (fun fl s' => LeaveE ((env :: outer).filterMap (·.frame)) A₀ base outer K p loose mean mg mb h₀ L m g R (match fl with | .ret v => v | _ => .none) s')
        (fun e s' => wpAny (model prog w) (A.deeper (envOfC qual scope L' f cdv)) (leaving (envOfC qual scope L' f cdv) e) (fun _ s'' => R (.error e) s'') (fun e' s'' => R (.error e') s'') s')
        { s with heap := h₁, toks := tk })
    (hco : scope.isCoroutine = false) (hgen : scope.isGenerator = false) (hk : scope.kind = .function) : codeAny (model prog w) A (.call (.ref f) args) R s := by
  obtain ⟨FG, BG, st, lv⟩ := groundX (R := R) B F N hA hf hke
  obtain ⟨oL, es, ep, hLg, hLd, hN, hNs, _, _⟩ := enterX B F N hA hf hke
  refine codeAny_call_function hroom ((X₀.keeps F.keep) _ _ ho) rfl hco hgen rfl (codeRec_of (X₀.keeps F.keep) hcd) (hbind _ _ _ _ ?_)
  refine wpAny_newFunctionEnv_cells hk (kindsX hkind _) fun env' he s' x => ?_
  subst he
  refine ⟨(T.nolimit.keeps F.keep).keeps x.toInCall.keep, codeAny_func ?_⟩
  obtain ⟨h₁, tk, rfl, _⟩ := x.done
  have hk₁ := x.toInCall.keep
  obtain ⟨cells, NC, Y⟩ := Cl.news (h₀ := s.heap) (Nat.le_refl _) fun n c hm => ⟨x.cell n c (lookup_of_mem_nodup (cellsFrom_names scope.names 0 (s.heap.objs.size + 1) [] [] rfl ▸ hnd) hm), x.above n c hm⟩
  refine wpAny_mono (h _ s.heap.objs.size h₁ tk cells FG ⟨x.toInCall.ns, fun b o e => hk₁ b o (of_hideAll _ e), Nat.le_of_eq (hideAll_size _ _)⟩ (fun p hp => ?_) Y BG (X₀.keeps st) (T.keeps st) (fun b hb => ?_) (fun p hp => Heap.lt_size (N p hp).1)) (fun fl s' hl => ?_) fun _ _ y => y
  · rcases List.mem_append.mp hp with hp | hp
    · refine ⟨(NC p hp).1, (NC p hp).2.1, ?_⟩
      cases q : (hideAll s.heap (news.map (·.1))).get? p.1 with
      | none => rfl
      | some o =>
        have := of_hideAll _ q
        rw [(NC p hp).2.2] at this
        cases this
    · exact ⟨hk₁ _ _ (N p hp).1, Nat.ne_of_lt (Heap.lt_size (N p hp).1), hideAll_none _ (List.mem_map_of_mem hp)⟩
  · rcases mem_frames hf hb with rfl | hb
    · exact ⟨oL, es, ep, hLg, hLd⟩
    · obtain ⟨o, es', n', ho', hd'⟩ := D b hb
      exact ⟨o, es', n', st b o ho', hd'⟩
  · rcases hl with hl | hl
    · exact lv _ _ hl
    · exact back_turn (news := news) B F XB TB D hf hLg hNs st hl
end
end Mine
end

section
open PySem PySem.W PyProof.Rows PySem.Calls
set_option Elab.async false
set_option maxRecDepth 100000
set_option maxHeartbeats 4000000
namespace Mine
theorem lnW1_0 : True := by
  k_with_none
  w_top off
  k_with "pk" => first | exact pk1 | exact pk2 | exact pk3 | exact pk4 | (refine pkS ?_; k_extra "pk")
  k_with "ne" => (refine neN ?_; (try dsimp only); with_reducible first | assumption | exact .symm (by assumption) | exact pk2 (by assumption) | exact pk4 (by assumption) | (refine pkH (by assumption) ?_; k_extra "pk") | (refine pkL (by assumption) ?_; k_extra "pk") | fail)
  k_with "room" => first | exact rmA (by assumption) rfl | exact rmB (by assumption) rfl | exact rmC (by assumption) rfl | fail
  trivial

theorem valueAt_some_iff {kvs : List (Int × Value)} {k : Int} : (valueAt kvs k).isSome = true ↔ k ∈ kvs.map (·.1) := by
  unfold valueAt
  induction kvs with
  | nil => simp
  | cons p r ih =>
    rw [List.find?_cons]
    by_cases h : p.1 = k
    · simp [h]
    · simp only [h, decide_false, List.map_cons, List.mem_cons]
      rw [ih]
      constructor
      · exact fun x => .inr x
      · rintro (x | x)
        · exact absurd x.symm h
        · exact x
theorem valueAt_isSome {kvs : List (Int × Value)} {k : Int} : (valueAt kvs k).isSome = decide (k ∈ kvs.map (·.1)) := by
  by_cases h : k ∈ kvs.map (·.1)
  · rw [valueAt_some_iff.mpr h]; simp [h]
  · have : ¬ (valueAt kvs k).isSome = true := fun x => h (valueAt_some_iff.mp x)
    simp [h] at this ⊢
    exact this

theorem stored_map_new {α : Type} (f : α → Int) (g : α → Value) {σ : List α} {k : Int} {v : Value} (h : (valueAt (σ.map fun c => (f c, g c)) k).isSome = false) : stored (σ.map fun c => (f c, g c)) k v = (σ.map fun c => (f c, g c)) ++ [(k, v)] :=
  stored_absent (by cases e : valueAt (σ.map fun c => (f c, g c)) k with | none => rfl | some x => rw [e] at h; cases h) v

theorem without_map {α : Type} (f : α → Int) (g : α → Value) (σ : List α) (k : Int) : without (σ.map fun c => (f c, g c)) k = (σ.filter fun c => f c ≠ k).map fun c => (f c, g c) := by
  unfold without
  rw [List.filter_map]
  congr 1

theorem same_keys {a b : List (Int × Value)} (h : SameKv a b) : a.map (·.1) = b.map (·.1) := by
  have := congrArg (List.map Prod.fst) h
  rw [List.map_map, List.map_map] at this
  exact this
theorem same_isSome {a b : List (Int × Value)} (h : SameKv a b) (k : Int) : (valueAt a k).isSome = (valueAt b k).isSome := by
  rw [valueAt_isSome, valueAt_isSome, same_keys h]
theorem same_find {k : Int} : ∀ {a b : List (Int × Value)}, SameKv a b → (valueAt a k).map bare = (valueAt b k).map bare
  | [], [], _ => rfl
  | [], _ :: _, h => by simp [SameKv] at h
  | _ :: _, [], h => by simp [SameKv] at h
  | p :: r, q :: t, h => by
    simp only [SameKv, List.map_cons, List.cons.injEq, Prod.mk.injEq] at h
    have ih := same_find (k := k) (a := r) (b := t) h.2
    unfold valueAt at ih ⊢
    rw [List.find?_cons, List.find?_cons]
    by_cases e : p.1 = k
    · have e2 : q.1 = k := h.1.1 ▸ e
      simp [e, e2, h.1.2]
    · have e2 : ¬ q.1 = k := h.1.1 ▸ e
      simp only [e, e2, decide_false]
      exact ih
theorem same_without {k : Int} : ∀ {a b : List (Int × Value)}, SameKv a b → SameKv (without a k) (without b k)
  | [], [], _ => rfl
  | [], _ :: _, h => by simp [SameKv] at h
  | _ :: _, [], h => by simp [SameKv] at h
  | p :: r, q :: t, h => by
    simp only [SameKv, List.map_cons, List.cons.injEq, Prod.mk.injEq] at h
    have ih := same_without (k := k) (a := r) (b := t) h.2
    unfold without at ih ⊢
    rw [List.filter_cons, List.filter_cons, h.1.1]
    by_cases e : q.1 = k
    · simpa [e] using ih
    · simp only [SameKv] at ih ⊢
      rw [if_pos (by simpa using e), if_pos (by simpa using e)] <;> simp only [List.map_cons, h.1.1, h.1.2, ih]
theorem same_stored {k : Int} {v v' : Value} (hv : bare v = bare v') : ∀ {a b : List (Int × Value)}, SameKv a b → SameKv (stored a k v) (stored b k v') := by
  intro a b h
  have hk := same_keys h
  have hany : (a.any fun kv => decide (kv.1 = k)) = (b.any fun kv => decide (kv.1 = k)) := by
    have e : ∀ l : List (Int × Value), (l.any fun kv => decide (kv.1 = k)) = (l.map (·.1)).any fun x => decide (x = k) := fun l => by rw [List.any_map]; rfl
    rw [e, e, hk]
  unfold stored
  rw [hany]
  by_cases hb : (b.any fun kv => decide (kv.1 = k)) = true
  · rw [if_pos hb, if_pos hb]
    clear hany hb hk
    induction a generalizing b with
    | nil => cases b with
      | nil => rfl
      | cons _ _ => simp [SameKv] at h
    | cons p r ih => cases b with
      | nil => simp [SameKv] at h
      | cons q t =>
        simp only [SameKv, List.map_cons, List.cons.injEq, Prod.mk.injEq] at h
        have ih' := ih (b := t) h.2
        simp only [SameKv] at ih' ⊢
        rw [List.map_cons, List.map_cons, List.map_cons, List.map_cons, ih']
        congr 1
        by_cases e : q.1 = k
        · rw [if_pos (h.1.1.trans e), if_pos e]; simp only [h.1.1, hv]
        · rw [if_neg (fun z => e (h.1.1 ▸ z)), if_neg e]; simp only [h.1.1, h.1.2]
  · rw [if_neg hb, if_neg hb]
    simp only [SameKv] at h ⊢
    rw [List.map_append, List.map_append, h]
    simp [hv]
theorem txt_stored {k : Int} {v : Value} {a : List (Int × Value)} (h : ∀ p ∈ a, ∃ x t, p.2 = .str x t) (hv : ∃ x t, v = .str x t) : ∀ p ∈ stored a k v, ∃ x t, p.2 = .str x t := by
  intro p hp
  unfold stored at hp
  split at hp
  · obtain ⟨q, hq, rfl⟩ := List.mem_map.mp hp
    by_cases e : q.1 = k
    · rw [if_pos e]; exact hv
    · rw [if_neg e]; exact h q hq
  · rcases List.mem_append.mp hp with hp | hp
    · exact h p hp
    · rw [List.mem_singleton.mp hp]; exact hv
theorem txt_without {k : Int} {a : List (Int × Value)} (h : ∀ p ∈ a, ∃ x t, p.2 = .str x t) : ∀ p ∈ without a k, ∃ x t, p.2 = .str x t := fun p hp => h p (List.mem_filter.mp hp).1
end Mine
end

section
open PySem PySem.W PyProof.Rows PySem.Calls
set_option Elab.async false
set_option maxRecDepth 100000
set_option maxHeartbeats 4000000
namespace Mine
theorem lnD0_0 : True := by
  k_with_none
  w_top off
  k_with "pk" => first | exact pk1 | exact pk2 | exact pk3 | exact pk4 | (refine pkS ?_; k_extra "pk")
  k_with "ne" => (refine neN ?_; (try dsimp only); with_reducible first | assumption | exact .symm (by assumption) | exact pk2 (by assumption) | exact pk4 (by assumption) | (refine pkH (by assumption) ?_; k_extra "pk") | (refine pkL (by assumption) ?_; k_extra "pk") | fail)
  k_with "room" => first | exact rmA (by assumption) rfl | exact rmB (by assumption) rfl | exact rmC (by assumption) rfl | fail
  trivial

noncomputable abbrev lamQ : Str := Str.ofString "_law_deed_right.<locals>.<lambda>"
/-- the table of code objects of the deed's function -/
noncomputable def TabOk (ps : Array Value) (oth : List (Addr × Obj)) : Prop := TriplesOk ps.toList ∧ ∀ pos cv, codeAmong pos ps.toList = some cv → ∃ c' oc vs t, cv = .ref c' ∧ (c', oc) ∈ oth ∧ oc.data = .fields vs ∧ vs[1]? = some (.str lamQ t)

structure Inv (prog : Program) (w : World) (M dM S O src : Addr) (oS oO : Obj) (ps : Array Value) (σ : List Ses) (oth : List (Addr × Obj)) : Prop where
  nd : ((M :: dM :: S :: O :: src :: 285 :: (ledS w σ ++ oth).map (·.1)) : List Nat).Nodup
  hS : oS.IsDictOf (intKind prog w) (kvM σ)
  hO : oO.IsDictOf (intKind prog w) (kvO σ)
  loS : (S == sysModules) = false
  loO : (O == sysModules) = false
  nn : (σ.map (·.num)).Nodup
  len : σ.length ≤ 3
  ok : ∀ c ∈ σ, c.Ok prog w
  tab : TabOk ps oth
  ky : ∀ c ∈ σ, ∀ k ∈ c.kv.map (·.1), 1 ≤ k ∧ k ≤ 6

noncomputable abbrev stLed (w : World) (M dM S O src : Addr) (t1 t2 tm : Tok) (nM : Nat) (oS oO : Obj) (x y : Int) (tx ty : Tok) (nn : Nat) (ps : Array Value) (σ : List Ses) (oth : List (Addr × Obj)) : List (Addr × Obj) :=
  (M, instObj 236 dM) :: (dM, mirD w t1 t2 tm S nM) :: (S, oS) :: (O, oO) :: (src, listOf #[.int x tx, .int y ty] nn) :: (285, tabObj ps) :: (ledS w σ ++ oth)

theorem tri_snoc {pos : Pos} {c : Value} : ∀ (l : List Value), TriplesOk l → TriplesOk (l ++ [rawInt pos.line, rawInt pos.col, c])
  | [], _ => by simp [TriplesOk, rawInt]
  | .int _ _ :: .int _ _ :: _ :: r, h => by
    show TriplesOk (r ++ _)
    exact tri_snoc r h
theorem among_snoc {pos pos' : Pos} {c cv : Value} : ∀ (l : List Value), TriplesOk l → codeAmong pos' (l ++ [rawInt pos.line, rawInt pos.col, c]) = some cv → codeAmong pos' l = some cv ∨ cv = c
  | [], _, h => by
    simp only [List.nil_append, codeAmong, rawInt] at h
    split at h
    · exact .inr (Option.some.inj h).symm
    · cases h
  | .int a _ :: .int b _ :: d :: r, ht, h => by
    have h' : codeAmong pos' (.int a _ :: .int b _ :: d :: (r ++ [rawInt pos.line, rawInt pos.col, c])) = some cv := h
    unfold codeAmong at h' ⊢
    by_cases e : (a == ↑pos'.line && b == ↑pos'.col) = true
    · rw [if_pos e] at h' ⊢; exact .inl h'
    · rw [if_neg e] at h' ⊢; exact among_snoc r ht h'
theorem TabOk.snoc {ps : Array Value} {oth oth' : List (Addr × Obj)} {pos : Pos} {c' : Addr} {oc : Obj} {vs : Array Value} {t : Tok} (h : TabOk ps oth) (hs : ∀ q ∈ oth, q ∈ oth') (hc : (c', oc) ∈ oth') (hd : oc.data = .fields vs) (hv : vs[1]? = some (.str lamQ t)) : TabOk (ps ++ #[rawInt pos.line, rawInt pos.col, .ref c']) oth' := by
  have e : (ps ++ #[rawInt pos.line, rawInt pos.col, .ref c']).toList = ps.toList ++ [rawInt pos.line, rawInt pos.col, .ref c'] := by simp
  refine ⟨by rw [e]; exact tri_snoc _ h.1, fun pos' cv hcv => ?_⟩
  rw [e] at hcv
  rcases among_snoc _ h.1 hcv with h1 | rfl
  · obtain ⟨c2, o2, v2, t2, e1, e2, e3, e4⟩ := h.2 pos' cv h1
    exact ⟨c2, o2, v2, t2, e1, hs _ e2, e3, e4⟩
  · exact ⟨c', oc, vs, t, rfl, hc, hd, hv⟩
theorem TabOk.mono {ps : Array Value} {oth oth' : List (Addr × Obj)} (h : TabOk ps oth) (hs : ∀ q ∈ oth, q ∈ oth') : TabOk ps oth' := ⟨h.1, fun pos cv hcv => by
  obtain ⟨c2, o2, v2, t2, e1, e2, e3, e4⟩ := h.2 pos cv hcv
  exact ⟨c2, o2, v2, t2, e1, hs _ e2, e3, e4⟩⟩

theorem nd_off {a : Nat} {l : List (Addr × Obj)} (h : a ∉ (l.map (·.1) : List Nat)) : ∀ q ∈ l, q.1 ≠ a := fun q hq e => h (e ▸ List.mem_map.mpr ⟨q, hq, rfl⟩)
end Mine
end

section
open PySem PySem.W PyProof.Rows PySem.Calls PyProof.Rows.LCg PyProof.Rows.LCt
set_option Elab.async false
set_option maxRecDepth 100000
set_option maxHeartbeats 8000000
namespace Mine
theorem lnD2_0 : True := by
  k_with_none
  w_top off
  k_with "pk" => first | exact pk1 | exact pk2 | exact pk3 | exact pk4 | (refine pkS ?_; k_extra "pk")
  k_with "ne" => (refine neN ?_; (try dsimp only); with_reducible first | assumption | exact .symm (by assumption) | exact pk2 (by assumption) | exact pk4 (by assumption) | (refine pkH (by assumption) ?_; k_extra "pk") | (refine pkL (by assumption) ?_; k_extra "pk") | fail)
  k_with "room" => first | exact rmA (by assumption) rfl | exact rmB (by assumption) rfl | exact rmC (by assumption) rfl | fail
  trivial
section
variable {prog : Program} {w : World} {p : Program} {loose : List Str} {mean : ExcName → Option Value} {mg mb : Str → Option Value} {dp un : Nat} {gd : Option (List Code)} {cn : Str} {cs : Scope} {a : Addr} {ccd : Value} {cl : List (Str × Addr)} {outer : List Env} {A₀ : Around} {base h₀ : Heap} {L : Addr} {m : Str → Option Value} {s : Shared} {Q E : Value → Shared → Prop} {news : List (Addr × Obj)}


theorem lnD2_1 : True := by
  k_with "exec Raise some none" => (k_here; k_dflt (refine raise_own (by rfl) ?_))
  k_with "call ref" => (k_here; (with_reducible show wpAny _ _ (call (Value.ref 51) _) _ _ _); (refine' exc_make ?BQ128 ?FQ128 ?XQ128 ?NQ128 ?TQ128 ?kQ128 ?dQ128 ?uQ128 ?_; (case BQ128 => k_asm); (case FQ128 => k_asm); (case XQ128 => k_asm); (case NQ128 => k_asm); (case TQ128 => k_asm); (case kQ128 => first | exact rfl | assumption); (case dQ128 => ktr_room); (case uQ128 => ktr_units)); intro h' tk' e' t1' d1' F' N' o1' o2' o3'; revert h' tk' e' t1' d1' F' N' o1' o2' o3'; intro _ _ _ _ _ _ _ _ _ _)
  k_with "RaisableX" => (k_here; refine ⟨_, _, _, rfl, (‹News _ _ _ ((_, excOd _ _) :: _)› _ (.head _)).1, rfl, rfl, rfl, Frag.In.keeps (by k_asm) (Fr.keep (by k_asm)), ?_⟩)
  k_with "leaving ref" => (k_here; (refine' leave_raiseZ ?BQ130 ?FQ130 ?NQ130 ?o1Q130 ?o2Q130 ?o3Q130 ?_; (case BQ130 => k_asm); (case FQ130 => k_asm); (case NQ130 => k_asm); (case o1Q130 => assumption); (case o2Q130 => assumption); (case o3Q130 => assumption)); intro h' R' U'; (try dsimp only at R' U' ⊢); revert h' R' U'; intro _ _ _)
  k_with "leaving ref" => (k_here; (refine' leave_onS ?k1Q131 ?k2Q131 ?k3Q131 ?k4Q131 ?_; (case k3Q131 => assumption); (case k1Q131 => assumption); (case k4Q131 => assumption); (case k2Q131 => assumption); k_whole; intro h' R' K' U'; (try dsimp only at R' U' ⊢); revert h' R' K' U'; intro _ _ _ _))
  trivial
theorem one_vlan {src th : Addr} {x y : Int} {tx ty ta tb : Tok} {n nt : Nat} {g : Obj → List (Addr × Obj)}
    (B : Below A₀ base outer h₀) (F : Fr h₀ L s.heap m) (X : (pre.heap_1 w.params).In h₀) (N : News h₀ L s.heap news) (T : Top p loose mean mg mb h₀) (hk : cs.kind = .function) (U : UpdF src (listOf #[.int x tx, .int y ty] n) news g)
    (hth : (th, listOf #[.none, .none, .int 7 ta, .int 4094 tb] nt) ∈ news) (hth2 : ∀ o', (th, listOf #[.none, .none, .int 7 ta, .int 4094 tb] nt) ∈ g o')
    (hd : dp + 210 < recursionLimit) (hu : un + 18 < cLine) (hy0 : 0 ≤ y) (hy1 : y < 2147483647)
    (hret : ∀ (v : Value) (x' y' : Int) (tx' ty' : Tok) (n' : Nat) (h' : Heap) (tk' : Nat), (v = .none ∨ ∃ k t, v = .int k t) → 0 ≤ y' → y' < 2147483647 → Fr h₀ L h' m → News h₀ L h' (g (listOf #[.int x' tx', .int y' ty'] n')) → Q v { s with heap := h', toks := tk' }) :
    wpAny (model prog w) (ktrTop dp un gd cn cs L a ccd cl outer) (call (.ref 261) [.ref src, .ref th]) Q E s := by
  refine one_spec (vs := [.none, .none, .int 7 ta, .int 4094 tb]) B F X N T hk U hth hth2 hd hu (by simp) (by simp) hy0 hy1 fun i hi x' y' tx' ty' n' h' tk' a b c d => hret _ x' y' tx' ty' n' h' tk' ?_ a b c d
  match i, hi with
  | 0, _ => exact .inl rfl
  | 1, _ => exact .inl rfl
  | 2, _ => exact .inr ⟨_, _, rfl⟩
  | 3, _ => exact .inr ⟨_, _, rfl⟩

theorem one_word {src th : Addr} {x y : Int} {tx ty ta tb tc td te : Tok} {n nt : Nat} {g : Obj → List (Addr × Obj)}
    (B : Below A₀ base outer h₀) (F : Fr h₀ L s.heap m) (X : (pre.heap_1 w.params).In h₀) (N : News h₀ L s.heap news) (T : Top p loose mean mg mb h₀) (hk : cs.kind = .function) (U : UpdF src (listOf #[.int x tx, .int y ty] n) news g)
    (hth : (th, listOf #[.str (Str.ofString "in") ta, .str (Str.ofString "out") tb, .str (Str.ofString "both") tc, .str (Str.ofString "both") td, .str (Str.ofString "up") te] nt) ∈ news) (hth2 : ∀ o', (th, listOf #[.str (Str.ofString "in") ta, .str (Str.ofString "out") tb, .str (Str.ofString "both") tc, .str (Str.ofString "both") td, .str (Str.ofString "up") te] nt) ∈ g o')
    (hd : dp + 210 < recursionLimit) (hu : un + 18 < cLine) (hy0 : 0 ≤ y) (hy1 : y < 2147483647)
    (hret : ∀ (xw : Str) (tw : Tok) (x' y' : Int) (tx' ty' : Tok) (n' : Nat) (h' : Heap) (tk' : Nat), (waysL.any (· == xw) = !(xw == Str.ofString "up")) → 0 ≤ y' → y' < 2147483647 → Fr h₀ L h' m → News h₀ L h' (g (listOf #[.int x' tx', .int y' ty'] n')) → Q (.str xw tw) { s with heap := h', toks := tk' }) :
    wpAny (model prog w) (ktrTop dp un gd cn cs L a ccd cl outer) (call (.ref 261) [.ref src, .ref th]) Q E s := by
  refine one_spec (vs := [.str (Str.ofString "in") ta, .str (Str.ofString "out") tb, .str (Str.ofString "both") tc, .str (Str.ofString "both") td, .str (Str.ofString "up") te]) B F X N T hk U hth hth2 hd hu (by simp) (by simp) hy0 hy1 fun i hi x' y' tx' ty' n' h' tk' a b c d => ?_
  match i, hi with
  | 0, _ => exact hret _ _ x' y' tx' ty' n' h' tk' (by decide +kernel) a b c d
  | 1, _ => exact hret _ _ x' y' tx' ty' n' h' tk' (by decide +kernel) a b c d
  | 2, _ => exact hret _ _ x' y' tx' ty' n' h' tk' (by decide +kernel) a b c d
  | 3, _ => exact hret _ _ x' y' tx' ty' n' h' tk' (by decide +kernel) a b c d
  | 4, _ => exact hret _ _ x' y' tx' ty' n' h' tk' (by decide +kernel) a b c d

end
end Mine
end

section
open PySem PySem.W PyProof.Rows PySem.Calls
set_option Elab.async false
set_option maxRecDepth 100000
set_option maxHeartbeats 4000000
namespace Mine
theorem lnD25_0 : True := by
  k_with_none
  w_top off
  k_with "pk" => first | exact pk1 | exact pk2 | exact pk3 | exact pk4 | (refine pkS ?_; k_extra "pk")
  k_with "ne" => (refine neN ?_; (try dsimp only); with_reducible first | assumption | exact .symm (by assumption) | exact pk2 (by assumption) | exact pk4 (by assumption) | (refine pkH (by assumption) ?_; k_extra "pk") | (refine pkL (by assumption) ?_; k_extra "pk") | fail)
  k_with "room" => first | exact rmA (by assumption) rfl | exact rmB (by assumption) rfl | exact rmC (by assumption) rfl | fail
  trivial
section
variable {M : Model} {A : Around} {E : Value → Shared → Prop} {s : Shared} {h₀ : Heap} {L a c P : Addr} {m mg mb : Str → Option Value} {cn : Str} {cs : Scope} {ccd : Value} {cl : List (Str × Addr)} {news : List (Addr × Obj)} {g : Obj → List (Addr × Obj)}
  {p : Program} {loose : List Str} {mean : ExcName → Option Value} {name : Str} {params : Arguments} {body : PySem.Expr} {scope : Scope} {ps : Array Value} {pos : Pos} {firstLine : Nat} {clos : List (Str × Addr)}
theorem lam_new {Q : Value → Shared → Prop} {oth : List (Addr × Obj)} (F : Fr h₀ L s.heap m) (N : News h₀ L s.heap news) (T : Top p loose mean mg mb h₀) (C : CodeHd h₀ c P) (hcd : ccd = .ref c) (U : UpdF P (tabObj ps) news g) (tab : TabOk ps oth)
    (hcl : closureFor scope (envX cn cs L a ccd cl) = pure clos)
    (h : ∀ f c' oc vs t ctv h' tk ps' newc, Fr h₀ L h' m →
      News h₀ L h' ((f, kla_obj name lamQ params body scope clos ((mg "__name__").getD .none) c' ctv) :: (newc ++ g (tabObj ps'))) → (newc = [] ∨ newc = [(c', oc)]) → (c', oc) ∈ newc ++ oth → oc.data = .fields vs → vs[1]? = some (.str lamQ t) → TabOk ps' (newc ++ oth) →
      (∀ q ∈ news, q.1 < f) → (∀ q ∈ newc, q.1 < f ∧ ∀ p ∈ news, p.1 < q.1) → Q (.ref f) { s with heap := h', toks := tk }) :
    wpAny M A (makeFunction name lamQ params (.expr body) scope (envX cn cs L a ccd cl) [] [] [] pos firstLine) Q E s := by
  cases hc : codeAmong pos ps.toList with
  | none =>
    refine kla_nest F N T C hcd U tab.1 hc hcl fun f c' oc vs t ctv h' tk F' N' hd hv l1 l2 => ?_
    refine h f c' oc vs t ctv h' tk _ [(c', oc)] F' N' (.inr rfl) (.head _) hd hv (tab.snoc (fun q hq => .tail _ hq) (.head _) hd hv) (fun q hq => Nat.lt_trans (l1 q hq) l2) fun q hq => ?_
    rw [List.mem_singleton.mp hq]
    exact ⟨l2, l1⟩
  | some cv =>
    obtain ⟨c', oc, vs, t, rfl, hm, hd, hv⟩ := tab.2 pos cv hc
    obtain ⟨pre, post, rfl, hg, h1, h2⟩ := U.split
    refine kla_hit F N T C hcd (List.mem_append_right _ (.head _)) tab.1 hc hcl fun f ctv h' tk F' N' l1 => ?_
    refine h f c' oc vs t ctv h' tk ps [] F' (by rw [hg]; exact N') (.inl rfl) hm hd hv tab l1 fun q hq => nomatch hq
theorem Refuses.perm {prog : Program} {w : World} {lam : Addr} {dmax umax : Nat} {l l' : List (Addr × Obj)} (h1 : ∀ q ∈ l', q ∈ l) (h2 : ∀ q ∈ l, q ∈ l') (R : Refuses prog w p loose mean mg mb lam dmax umax l') : Refuses prog w p loose mean mg mb lam dmax umax l := by
  intro dp un gd cn cs a ccd cl outer A₀ base h₀ L m s Q E B F X N T hk hd hu hr
  exact R B F X (ledger_sub N h1) T hk hd hu fun G h' tk e t vs F' R' U' => hr G h' tk e t vs F' (raised_sub R' h2) U'
theorem perm_led {x : Addr × Obj} {newc rest : List (Addr × Obj)} : (∀ q ∈ x :: (rest ++ newc), q ∈ x :: (newc ++ rest)) ∧ (∀ q ∈ x :: (newc ++ rest), q ∈ x :: (rest ++ newc)) := by
  constructor
  all_goals
    intro q hq
    simp only [List.mem_cons, List.mem_append] at hq ⊢
    rcases hq with h | h | h
    · exact .inl h
    · exact .inr (.inr h)
    · exact .inr (.inl h)
end
end Mine
end

section
open PySem PySem.W PyProof.Rows PySem.Calls PyProof.Rows.LCg PyProof.Rows.LCt
set_option Elab.async false
set_option maxRecDepth 100000
set_option maxHeartbeats 8000000
namespace Mine
theorem lnLB_0 : True := by
  k_with_none
  w_top off
  k_with "pk" => first | exact pk1 | exact pk2 | exact pk3 | exact pk4 | (refine pkS ?_; k_extra "pk")
  k_with "ne" => (refine neN ?_; (try dsimp only); with_reducible first | assumption | exact .symm (by assumption) | exact pk2 (by assumption) | exact pk4 (by assumption) | (refine pkH (by assumption) ?_; k_extra "pk") | (refine pkL (by assumption) ?_; k_extra "pk") | fail)
  k_with "room" => first | exact rmA (by assumption) rfl | exact rmB (by assumption) rfl | exact rmC (by assumption) rfl | fail
  trivial
section
variable {prog : Program} {w : World} {p : Program} {loose : List Str} {mean : ExcName → Option Value} {mg mb : Str → Option Value} {dp un : Nat} {gd : Option (List Code)} {cn : Str} {cs : Scope} {a : Addr} {ccd : Value} {cl : List (Str × Addr)} {outer : List Env} {A₀ : Around} {base h₀ : Heap} {L : Addr} {m : Str → Option Value} {s : Shared} {Q E : Value → Shared → Prop} {news : List (Addr × Obj)}


theorem lnLB_1 : True := by
  k_with "exec Raise some none" => (k_here; k_dflt (refine raise_own (by rfl) ?_))
  k_with "call ref" => (k_here; (with_reducible show wpAny _ _ (call (Value.ref 51) _) _ _ _); (refine' exc_make ?BQ133 ?FQ133 ?XQ133 ?NQ133 ?TQ133 ?kQ133 ?dQ133 ?uQ133 ?_; (case BQ133 => k_asm); (case FQ133 => k_asm); (case XQ133 => k_asm); (case NQ133 => k_asm); (case TQ133 => k_asm); (case kQ133 => first | exact rfl | assumption); (case dQ133 => ktr_room); (case uQ133 => ktr_units)); intro h' tk' e' t1' d1' F' N' o1' o2' o3'; revert h' tk' e' t1' d1' F' N' o1' o2' o3'; intro _ _ _ _ _ _ _ _ _ _)
  k_with "RaisableX" => (k_here; refine ⟨_, _, _, rfl, (‹News _ _ _ ((_, excOd _ _) :: _)› _ (.head _)).1, rfl, rfl, rfl, Frag.In.keeps (by k_asm) (Fr.keep (by k_asm)), ?_⟩)
  k_with "leaving ref" => (k_here; (refine' leave_raiseZ ?BQ135 ?FQ135 ?NQ135 ?o1Q135 ?o2Q135 ?o3Q135 ?_; (case BQ135 => k_asm); (case FQ135 => k_asm); (case NQ135 => k_asm); (case o1Q135 => assumption); (case o2Q135 => assumption); (case o3Q135 => assumption)); intro h' R' U'; (try dsimp only at R' U' ⊢); revert h' R' U'; intro _ _ _)
  k_with "leaving ref" => (k_here; (refine' leave_onS ?k1Q136 ?k2Q136 ?k3Q136 ?k4Q136 ?_; (case k3Q136 => assumption); (case k1Q136 => assumption); (case k4Q136 => assumption); (case k2Q136 => assumption); k_whole; intro h' R' K' U'; (try dsimp only at R' U' ⊢); revert h' R' K' U'; intro _ _ _ _))
  trivial
theorem make_bad {M dM S : Addr} {oS : Obj} {t1 t2 tm : Tok} {nM : Nat} {σ : List Ses} {num goal : Int} {tn tg : Tok} {vl : Value}
    (B : Below A₀ base outer h₀) (F : Fr h₀ L s.heap m) (X : (pre.heap_1 w.params).In h₀) (N0 : News h₀ L s.heap news) (T : Top p loose mean mg mb h₀) (hk : cs.kind = .function)
    (hm : ∀ q ∈ (M, instObj 236 dM) :: (dM, mirD w t1 t2 tm S nM) :: (S, oS) :: ledS w σ, q ∈ news) (hne : ∀ q ∈ (M, instObj 236 dM) :: (dM, mirD w t1 t2 tm S nM) :: ledS w σ, q.1 ≠ S)
    (hd : dp + 240 < recursionLimit) (hu : un + 200 < cLine) (hS : oS.IsDictOf (intKind prog w) (kvM σ)) (lo : (S == sysModules) = false) (hn : (σ.map (·.num)).Nodup) (hl : σ.length ≤ 3) (ok : ∀ c ∈ σ, c.Ok prog w) (bad : ¬ MakeOk σ num goal)
    (hraise : ∀ G h' tk e t vs, Fr h₀ L G m → RaisedS base G (envX cn cs L a ccd cl :: outer) e (.ref 51) t vs news h' → G.UpToSlots h' → E (.ref e) { s with heap := h', toks := tk }) :
    wpAny (model prog w) (ktrTop dp un gd cn cs L a ccd cl outer) (call (.ref 198) [.ref M, .int num tn, .int goal tg, vl]) Q E s := by
  have hSm : (S, oS) ∈ news := hm _ (.tail _ (.tail _ (.head _)))
  have hfun : ∀ q ∈ news, q.1 = S → q = (S, oS) := fun q hq e => by
    have h1 := (N0 q hq).1
    have h2 := (N0 _ hSm).1
    rw [e] at h1
    have h3 : q.2 = oS := Option.some.inj (h1.symm.trans h2)
    exact Prod.ext e h3
  refine make_spec (dM := dM) (t1 := t1) (t2 := t2) (tm := tm) (nM := nM) (rest := news.filter fun q => decide (q.1 ≠ S)) B F X (ledger_sub N0 ?_) T hk ?_ ?_ hd hu hS lo hn hl ok (fun h => absurd h bad) (fun _ G h' tk e t vs F' R' U' => hraise G h' tk e t vs F' (raised_sub R' ?_) U')
  · intro q hq
    rcases List.mem_cons.mp hq with rfl | hq
    · exact hSm
    · exact (List.mem_filter.mp hq).1
  · intro q hq
    simpa using (List.mem_filter.mp hq).2
  · intro q hq
    refine List.mem_filter.mpr ⟨hm q ?_, by simpa using hne q hq⟩
    simp only [List.mem_cons] at hq ⊢
    rcases hq with h | h | h
    · exact .inl h
    · exact .inr (.inl h)
    · exact .inr (.inr (.inr h))
  · intro q hq
    by_cases e : q.1 = S
    · rw [hfun q hq e]; exact .head _
    · exact .tail _ (List.mem_filter.mpr ⟨hq, by simpa using e⟩)

theorem add_bad {M dM S : Addr} {oS : Obj} {t1 t2 tm : Tok} {nM : Nat} {σ : List Ses} {num : Int} {tn : Tok} {port : Int} {tp : Tok} {way : Str} {tw : Tok}
    (B : Below A₀ base outer h₀) (F : Fr h₀ L s.heap m) (X : (pre.heap_1 w.params).In h₀) (N0 : News h₀ L s.heap news) (T : Top p loose mean mg mb h₀) (hk : cs.kind = .function)
    (hm : ∀ q ∈ (M, instObj 236 dM) :: (dM, mirD w t1 t2 tm S nM) :: (S, oS) :: ledS w σ, q ∈ news)
    (hd : dp + 240 < recursionLimit) (hu : un + 200 < cLine) (hS : oS.IsDictOf (intKind prog w) (kvM σ)) (lo : (S == sysModules) = false) (hn : (σ.map (·.num)).Nodup) (hl : σ.length ≤ 3) (ok : ∀ c ∈ σ, c.Ok prog w)
    (bad : (∀ c ∈ σ, c.num ≠ num) ∨ waysL.any (· == way) = false ∨ (σ.any fun c => c.goal = port) = true)
    (hraise : ∀ G h' tk e t vs, Fr h₀ L G m → RaisedS base G (envX cn cs L a ccd cl :: outer) e (.ref 51) t vs news h' → G.UpToSlots h' → E (.ref e) { s with heap := h', toks := tk }) :
    wpAny (model prog w) (ktrTop dp un gd cn cs L a ccd cl outer) (call (.ref 212) [.ref M, .int num tn, .int port tp, .str way tw]) Q E s := by
  by_cases h : ∃ c ∈ σ, c.num = num
  · obtain ⟨c, hc, rfl⟩ := h
    refine add_bad2 B F X N0 T hk hm hd hu hS lo hn hl ok hc ?_ hraise
    rcases bad with b | b
    · exact absurd rfl (b c hc)
    · exact b
  · refine add_bad1 B F X N0 T hk (fun q hq => hm q (List.mem_append_left (ledS w σ) hq)) hd hu hS lo ?_ hraise
    rw [valueAt_isSome]
    refine decide_eq_false fun hx => h ?_
    rw [kvM, List.map_map] at hx
    obtain ⟨c, hc, e⟩ := List.mem_map.mp hx
    exact ⟨c, hc, e⟩

theorem take_bad {M dM S : Addr} {oS : Obj} {t1 t2 tm : Tok} {nM : Nat} {σ : List Ses} {num : Int} {tn : Tok} {port : Int} {tp : Tok}
    (B : Below A₀ base outer h₀) (F : Fr h₀ L s.heap m) (X : (pre.heap_1 w.params).In h₀) (N0 : News h₀ L s.heap news) (T : Top p loose mean mg mb h₀) (hk : cs.kind = .function)
    (hm : ∀ q ∈ (M, instObj 236 dM) :: (dM, mirD w t1 t2 tm S nM) :: (S, oS) :: ledS w σ, q ∈ news)
    (hd : dp + 240 < recursionLimit) (hu : un + 200 < cLine) (hS : oS.IsDictOf (intKind prog w) (kvM σ)) (lo : (S == sysModules) = false) (hn : (σ.map (·.num)).Nodup) (hl : σ.length ≤ 3) (ok : ∀ c ∈ σ, c.Ok prog w)
    (bad : ∀ c ∈ σ, c.num = num → (valueAt c.kv port).isSome = false)
    (hraise : ∀ G h' tk e t vs, Fr h₀ L G m → RaisedS base G (envX cn cs L a ccd cl :: outer) e (.ref 51) t vs news h' → G.UpToSlots h' → E (.ref e) { s with heap := h', toks := tk }) :
    wpAny (model prog w) (ktrTop dp un gd cn cs L a ccd cl outer) (call (.ref 219) [.ref M, .int num tn, .int port tp]) Q E s := by
  by_cases h : ∃ c ∈ σ, c.num = num
  · obtain ⟨c, hc, rfl⟩ := h
    exact take_bad2 B F X N0 T hk hm hd hu hS lo hn hl ok hc (bad c hc rfl) hraise
  · refine take_bad1 B F X N0 T hk (fun q hq => hm q (List.mem_append_left (ledS w σ) hq)) hd hu hS lo ?_ hraise
    rw [valueAt_isSome]
    refine decide_eq_false fun hx => h ?_
    rw [kvM, List.map_map] at hx
    obtain ⟨c, hc, e⟩ := List.mem_map.mp hx
    exact ⟨c, hc, e⟩

end
end Mine
end

section
open PySem PySem.W PyProof.Rows PySem.Calls PyProof.Rows.LCg PyProof.Rows.LCt
set_option Elab.async false
set_option maxRecDepth 100000
set_option maxHeartbeats 8000000
namespace Mine
theorem lnLN_0 : True := by
  k_with_none
  w_top off
  k_with "pk" => first | exact pk1 | exact pk2 | exact pk3 | exact pk4 | (refine pkS ?_; k_extra "pk")
  k_with "ne" => (refine neN ?_; (try dsimp only); with_reducible first | assumption | exact .symm (by assumption) | exact pk2 (by assumption) | exact pk4 (by assumption) | (refine pkH (by assumption) ?_; k_extra "pk") | (refine pkL (by assumption) ?_; k_extra "pk") | fail)
  k_with "room" => first | exact rmA (by assumption) rfl | exact rmB (by assumption) rfl | exact rmC (by assumption) rfl | fail
  trivial
section
variable {prog : Program} {w : World} {p : Program} {loose : List Str} {mean : ExcName → Option Value} {mg mb : Str → Option Value} {dp un : Nat} {gd : Option (List Code)} {cn : Str} {cs : Scope} {a : Addr} {ccd : Value} {cl : List (Str × Addr)} {outer : List Env} {A₀ : Around} {base h₀ : Heap} {L : Addr} {m : Str → Option Value} {s : Shared} {Q E : Value → Shared → Prop} {news : List (Addr × Obj)}


theorem lnLN_1 : True := by
  k_with "exec Raise some none" => (k_here; k_dflt (refine raise_own (by rfl) ?_))
  k_with "call ref" => (k_here; (with_reducible show wpAny _ _ (call (Value.ref 51) _) _ _ _); (refine' exc_make ?BQ138 ?FQ138 ?XQ138 ?NQ138 ?TQ138 ?kQ138 ?dQ138 ?uQ138 ?_; (case BQ138 => k_asm); (case FQ138 => k_asm); (case XQ138 => k_asm); (case NQ138 => k_asm); (case TQ138 => k_asm); (case kQ138 => first | exact rfl | assumption); (case dQ138 => ktr_room); (case uQ138 => ktr_units)); intro h' tk' e' t1' d1' F' N' o1' o2' o3'; revert h' tk' e' t1' d1' F' N' o1' o2' o3'; intro _ _ _ _ _ _ _ _ _ _)
  k_with "RaisableX" => (k_here; refine ⟨_, _, _, rfl, (‹News _ _ _ ((_, excOd _ _) :: _)› _ (.head _)).1, rfl, rfl, rfl, Frag.In.keeps (by k_asm) (Fr.keep (by k_asm)), ?_⟩)
  k_with "leaving ref" => (k_here; (refine' leave_raiseZ ?BQ140 ?FQ140 ?NQ140 ?o1Q140 ?o2Q140 ?o3Q140 ?_; (case BQ140 => k_asm); (case FQ140 => k_asm); (case NQ140 => k_asm); (case o1Q140 => assumption); (case o2Q140 => assumption); (case o3Q140 => assumption)); intro h' R' U'; (try dsimp only at R' U' ⊢); revert h' R' U'; intro _ _ _)
  k_with "leaving ref" => (k_here; (refine' leave_onS ?k1Q141 ?k2Q141 ?k3Q141 ?k4Q141 ?_; (case k3Q141 => assumption); (case k1Q141 => assumption); (case k4Q141 => assumption); (case k2Q141 => assumption); k_whole; intro h' R' K' U'; (try dsimp only at R' U' ⊢); revert h' R' K' U'; intro _ _ _ _))
  trivial
theorem leave_onX {M : Model} {A : Around} {s' : Shared} {g g₂ : Heap} {e t : Addr} {vs : List Value} {cls : Value} {Q : Unit → Shared → Prop} (K : Below A base outer g) (F : Fr g L g₂ m) (R : RaisedS base g₂ (envX cn cs L a ccd cl :: outer) e cls t vs news s'.heap) (hsm : g₂.UpToSlots s'.heap)
    (hQ : ∀ h', RaisedS base g outer e cls t vs news h' → g.UpToSlots h' → Q () { s' with heap := h' }) :
    wpAny M (A.deeper (envX cn cs L a ccd cl)) (leaving (envX cn cs L a ccd cl) (.ref e)) Q E s' := by
  obtain ⟨⟨B, hB, hBG, hl, hfl, hnew⟩, htup⟩ := R
  exact wpAny_leaves_onW (Around.frames_deeper K.stack) rfl hfl fun h' x1 x2 =>
    hQ h' ⟨⟨B, hB, fun b o q nm => hBG b o (F.keep b o q) (fun hm => by
      rcases mem_frames (L := L) rfl hm with z | z
      · rw [z, kts_self F] at q
        cases q
      · exact nm z), fun q hq => ⟨(hl q hq).1, kts_none F.keep (hl q hq).2.1, (hl q hq).2.2⟩, x1, hnew⟩, htup.of_slots x2⟩ ((Heap.UpToSlots.of_keeps F.keep).trans (hsm.trans x2))
theorem lnLN_2 : True := by
  k_with "leaving ref" => (k_here; k_dflt (refine' leave_onX ?k1Q142 ?k2Q142 ?k3Q142 ?k4Q142 ?_; (case k3Q142 => assumption); (case k1Q142 => assumption); (case k4Q142 => assumption); (case k2Q142 => assumption); k_whole); intro h' R' U'; (try dsimp only at R' U' ⊢); revert h' R' U'; intro _ _ _)
  trivial
theorem nameX_N {M : Model} {A : Around} {x : Str} {pos : Pos} {c : Addr} {o : Obj} {v : Value} {Q : Value → Shared → Prop} (hc : cl.lookup x = some c) (N : News h₀ L s.heap news) (hm : (c, o) ∈ news) (hd : o.data = .cell (some v)) (h : Q v s)
    (hk : cs.kind = .function := by rfl) (hx : (envX cn cs L a ccd cl).kindOf x = some .free := by rfl) (hb : (x == ("__debug__" : Str)) = false := by decide) (hn : (x == ("__classdict__" : Str)) = false := by decide) :
    wpAny M A (eval (.Name x pos) (envX cn cs L a ccd cl)) Q E s := wpAny_Name (wpAny_loadName_free hk hx hc ⟨_, (N _ hm).1, hd⟩ h hn) hb
theorem lnLN_3 : True := by
  k_with "eval Name" => (k_here; k_dflt (refine' nameX_N ?cQ143 ?NQ143 ?mQ143 ?dQ143 ?_; (case cQ143 => exact rfl); (case NQ143 => k_asm); (case mQ143 => k_mem); (case dQ143 => assumption)))
  trivial
noncomputable abbrev noArgs : Arguments := { posonlyargs := [], args := [], vararg := none, kwonlyargs := [], kw_defaults := [], kwarg := none, defaults := [] }

theorem rem_bad {M dM S : Addr} {oS : Obj} {t1 t2 tm : Tok} {nM : Nat} {σ : List Ses} {num : Int} {tn : Tok}
    (B : Below A₀ base outer h₀) (F : Fr h₀ L s.heap m) (X : (pre.heap_1 w.params).In h₀) (N0 : News h₀ L s.heap news) (T : Top p loose mean mg mb h₀) (hk : cs.kind = .function)
    (hm : ∀ q ∈ (M, instObj 236 dM) :: (dM, mirD w t1 t2 tm S nM) :: (S, oS) :: ledS w σ, q ∈ news)
    (hd : dp + 240 < recursionLimit) (hu : un + 200 < cLine) (hS : oS.IsDictOf (intKind prog w) (kvM σ)) (lo : (S == sysModules) = false) (_hn : (σ.map (·.num)).Nodup) (_hl : σ.length ≤ 3) (_ok : ∀ c ∈ σ, c.Ok prog w) (bad : ∀ c ∈ σ, c.num ≠ num)
    (hraise : ∀ G h' tk e t vs, Fr h₀ L G m → RaisedS base G (envX cn cs L a ccd cl :: outer) e (.ref 51) t vs news h' → G.UpToSlots h' → E (.ref e) { s with heap := h', toks := tk }) :
    wpAny (model prog w) (ktrTop dp un gd cn cs L a ccd cl outer) (call (.ref 226) [.ref M, .int num tn]) Q E s := by
  refine remove_bad B F X N0 T hk (fun q hq => hm q (List.mem_append_left (ledS w σ) hq)) hd hu hS lo ?_ hraise
  rw [valueAt_isSome]
  refine decide_eq_false fun hx => ?_
  rw [kvM, List.map_map] at hx
  obtain ⟨c, hc, e⟩ := List.mem_map.mp hx
  exact bad c hc e
theorem lnLN_4 : True := by
  k_with "call ref" => (k_here; (with_reducible show wpAny _ _ (call (Value.ref 226) _) _ _ _); k_dflt (refine' rem_bad ?BQ144 ?FQ144 ?XQ144 ?NQ144 ?TQ144 ?kQ144 ?mQ144 ?dQ144 ?uQ144 ?SQ144 ?lQ144 ?nQ144 ?lenQ144 ?okQ144 ?vQ144 ?_; (case BQ144 => k_asm); (case FQ144 => k_asm); (case XQ144 => k_asm); (case NQ144 => k_asm); (case TQ144 => k_asm); (case kQ144 => exact rfl); (case mQ144 => assumption); (case SQ144 => assumption); (case dQ144 => ktr_room); (case uQ144 => ktr_units); (case lQ144 => assumption); (case nQ144 => assumption); (case lenQ144 => assumption); (case okQ144 => assumption); (case vQ144 => assumption)); intro G' h' tk' e' t' vs' F' R' U'; revert G' h' tk' e' t' vs' F' R' U'; intro _ _ _ _ _ _ _ _ _)
  trivial
theorem lam_remove {f c' a1 a2 M dM S : Addr} {oc o1 o2 oS : Obj} {vs : Array Value} {t tn : Tok} {ctv pm : Value}  {t1 t2 tm : Tok} {nM : Nat} {σ : List Ses} {num : Int} {dmax umax : Nat} {l : List (Addr × Obj)}
    (hf : (f, kla_obj (Str.ofString "<lambda>") lamQ noArgs (((PySem.Expr.Name (Str.ofString "mirrors") { line := 155, col := 40, endLine := 155, endCol := 47 }).Attribute (Str.ofString "remove") { line := 155, col := 40, endLine := 155, endCol := 54 }).Call [PySem.Expr.Name (Str.ofString "number") { line := 155, col := 55, endLine := 155, endCol := 61 }] [] { line := 155, col := 40, endLine := 155, endCol := 62 })
      { kind := ScopeKind.function, names := [(Str.ofString "mirrors", NameKind.free), (Str.ofString "number", NameKind.free)], isGenerator := false, isCoroutine := false } [(Str.ofString "number", a2), (Str.ofString "mirrors", a1)] pm c' ctv) ∈ l)
    (hc : (c', oc) ∈ l) (hd1 : oc.data = .fields vs) (hd2 : vs[1]? = some (.str lamQ t)) (h1 : (a1, o1) ∈ l) (h2 : (a2, o2) ∈ l) (e1 : o1.data = .cell (some (.ref M))) (e2 : o2.data = .cell (some (.int num tn)))
    (hm : ∀ q ∈ (M, instObj 236 dM) :: (dM, mirD w t1 t2 tm S nM) :: (S, oS) :: ledS w σ, q ∈ l) (hS : oS.IsDictOf (intKind prog w) (kvM σ)) (lo : (S == sysModules) = false) (hn : (σ.map (·.num)).Nodup) (hl : σ.length ≤ 3) (ok : ∀ c ∈ σ, c.Ok prog w) (bad : ∀ c ∈ σ, c.num ≠ num)
    (hdm : dmax + 300 < recursionLimit) (hum : umax + 300 < cLine) : Refuses prog w p loose mean mg mb f dmax umax l := by
  intro dp un gd cn cs a ccd cl outer A₀ base h₀ L m s Q E B F X N0 T hk hdp hup hraise
  have hd : dp + 300 < recursionLimit := by omega
  have hu : un + 300 < cLine := by omega
  clear hdp hup hdm hum
  have N : News h₀ L s.heap ((f, kla_obj (Str.ofString "<lambda>") lamQ noArgs (((PySem.Expr.Name (Str.ofString "mirrors") { line := 155, col := 40, endLine := 155, endCol := 47 }).Attribute (Str.ofString "remove") { line := 155, col := 40, endLine := 155, endCol := 54 }).Call [PySem.Expr.Name (Str.ofString "number") { line := 155, col := 55, endLine := 155, endCol := 61 }] [] { line := 155, col := 40, endLine := 155, endCol := 62 })
      { kind := ScopeKind.function, names := [(Str.ofString "mirrors", NameKind.free), (Str.ofString "number", NameKind.free)], isGenerator := false, isCoroutine := false } [(Str.ofString "number", a2), (Str.ofString "mirrors", a1)] pm c' ctv) :: (c', oc) :: (a1, o1) :: (a2, o2) :: (M, instObj 236 dM) :: (dM, mirD w t1 t2 tm S nM) :: (S, oS) :: l) := ledger_sub N0 (by
    intro q hq
    simp only [List.mem_cons] at hq
    rcases hq with h | h | h | h | h | h | h | h
    · rw [h]; exact hf
    · rw [h]; exact hc
    · rw [h]; exact h1
    · rw [h]; exact h2
    · exact hm q (by simp [h])
    · exact hm q (by simp [h])
    · exact hm q (by simp [h])
    · exact h)
  have hm' : ∀ q ∈ (M, instObj 236 dM) :: (dM, mirD w t1 t2 tm S nM) :: (S, oS) :: ledS w σ, q ∈ (f, kla_obj (Str.ofString "<lambda>") lamQ noArgs (((PySem.Expr.Name (Str.ofString "mirrors") { line := 155, col := 40, endLine := 155, endCol := 47 }).Attribute (Str.ofString "remove") { line := 155, col := 40, endLine := 155, endCol := 54 }).Call [PySem.Expr.Name (Str.ofString "number") { line := 155, col := 55, endLine := 155, endCol := 61 }] [] { line := 155, col := 40, endLine := 155, endCol := 62 })
      { kind := ScopeKind.function, names := [(Str.ofString "mirrors", NameKind.free), (Str.ofString "number", NameKind.free)], isGenerator := false, isCoroutine := false } [(Str.ofString "number", a2), (Str.ofString "mirrors", a1)] pm c' ctv) :: (c', oc) :: (a1, o1) :: (a2, o2) :: (M, instObj 236 dM) :: (dM, mirD w t1 t2 tm S nM) :: (S, oS) :: l := fun q hq => .tail _ (.tail _ (.tail _ (.tail _ (.tail _ (.tail _ (.tail _ (hm q hq)))))))
  clear N0 hf hc h1 h2 hm
  refine wpAny_call ?_
  refine' kla_code B F X N T rfl rfl hk (.head _) (codeRec_news N (.tail _ (.head _)) hd1 hd2) ?k8 rfl (locs rfl) ?_ rfl rfl rfl (by decide)
  case k8 => ktr_room
  intro g' L' h' FG' F' N' B' X' T'
  (try dsimp only)
  k_steps
  exact hraise _ _ _ _ _ _ (by assumption) (raised_sub (by assumption) (by intro q hq; simp [hq])) (by assumption)

theorem lnLN_5 : True := by
  k_with "call ref" => (k_here; (with_reducible show wpAny _ _ (call (Value.ref 198) _) _ _ _); k_dflt (refine' make_bad ?BQ145 ?FQ145 ?XQ145 ?NQ145 ?TQ145 ?kQ145 ?mQ145 ?neQ145 ?dQ145 ?uQ145 ?SQ145 ?lQ145 ?nQ145 ?lenQ145 ?okQ145 ?vQ145 ?_; (case BQ145 => k_asm); (case FQ145 => k_asm); (case XQ145 => k_asm); (case NQ145 => k_asm); (case TQ145 => k_asm); (case kQ145 => exact rfl); (case mQ145 => assumption); (case neQ145 => assumption); (case SQ145 => assumption); (case dQ145 => ktr_room); (case uQ145 => ktr_units); (case lQ145 => assumption); (case nQ145 => assumption); (case lenQ145 => assumption); (case okQ145 => assumption); (case vQ145 => assumption)); intro G' h' tk' e' t' vs' F' R' U'; revert G' h' tk' e' t' vs' F' R' U'; intro _ _ _ _ _ _ _ _ _)
  trivial
theorem lam_make {f c' a1 a2 a3 a4 M dM S : Addr} {oc o1 o2 o3 o4 oS : Obj} {vs : Array Value} {t tn : Tok} {ctv pm : Value} {port : Int} {tp : Tok} {vl : Value} {t1 t2 tm : Tok} {nM : Nat} {σ : List Ses} {num : Int} {dmax umax : Nat} {l : List (Addr × Obj)}
    (hf : (f, kla_obj (Str.ofString "<lambda>") lamQ noArgs (((PySem.Expr.Name (Str.ofString "mirrors") { line := 139, col := 40, endLine := 139, endCol := 47 }).Attribute (Str.ofString "make") { line := 139, col := 40, endLine := 139, endCol := 52 }).Call [PySem.Expr.Name (Str.ofString "number") { line := 139, col := 53, endLine := 139, endCol := 59 }, PySem.Expr.Name (Str.ofString "port") { line := 139, col := 61, endLine := 139, endCol := 65 }, PySem.Expr.Name (Str.ofString "vlan") { line := 139, col := 67, endLine := 139, endCol := 71 }] [] { line := 139, col := 40, endLine := 139, endCol := 72 })
      { kind := ScopeKind.function, names := [(Str.ofString "mirrors", NameKind.free), (Str.ofString "number", NameKind.free), (Str.ofString "port", NameKind.free), (Str.ofString "vlan", NameKind.free)], isGenerator := false, isCoroutine := false } [(Str.ofString "vlan", a4), (Str.ofString "port", a3), (Str.ofString "number", a2), (Str.ofString "mirrors", a1)] pm c' ctv) ∈ l)
    (hc : (c', oc) ∈ l) (hd1 : oc.data = .fields vs) (hd2 : vs[1]? = some (.str lamQ t)) (h1 : (a1, o1) ∈ l) (h2 : (a2, o2) ∈ l) (h3 : (a3, o3) ∈ l) (h4 : (a4, o4) ∈ l) (e1 : o1.data = .cell (some (.ref M))) (e2 : o2.data = .cell (some (.int num tn))) (e3 : o3.data = .cell (some (.int port tp))) (e4 : o4.data = .cell (some vl))
    (hm : ∀ q ∈ (M, instObj 236 dM) :: (dM, mirD w t1 t2 tm S nM) :: (S, oS) :: ledS w σ, q ∈ l) (hS : oS.IsDictOf (intKind prog w) (kvM σ)) (lo : (S == sysModules) = false) (hn : (σ.map (·.num)).Nodup) (hl : σ.length ≤ 3) (ok : ∀ c ∈ σ, c.Ok prog w) (hne : ∀ q ∈ (M, instObj 236 dM) :: (dM, mirD w t1 t2 tm S nM) :: ledS w σ, q.1 ≠ S) (bad : ¬ MakeOk σ num port)
    (hdm : dmax + 300 < recursionLimit) (hum : umax + 300 < cLine) : Refuses prog w p loose mean mg mb f dmax umax l := by
  intro dp un gd cn cs a ccd cl outer A₀ base h₀ L m s Q E B F X N0 T hk hdp hup hraise
  have hd : dp + 300 < recursionLimit := by omega
  have hu : un + 300 < cLine := by omega
  clear hdp hup hdm hum
  have N : News h₀ L s.heap ((f, kla_obj (Str.ofString "<lambda>") lamQ noArgs (((PySem.Expr.Name (Str.ofString "mirrors") { line := 139, col := 40, endLine := 139, endCol := 47 }).Attribute (Str.ofString "make") { line := 139, col := 40, endLine := 139, endCol := 52 }).Call [PySem.Expr.Name (Str.ofString "number") { line := 139, col := 53, endLine := 139, endCol := 59 }, PySem.Expr.Name (Str.ofString "port") { line := 139, col := 61, endLine := 139, endCol := 65 }, PySem.Expr.Name (Str.ofString "vlan") { line := 139, col := 67, endLine := 139, endCol := 71 }] [] { line := 139, col := 40, endLine := 139, endCol := 72 })
      { kind := ScopeKind.function, names := [(Str.ofString "mirrors", NameKind.free), (Str.ofString "number", NameKind.free), (Str.ofString "port", NameKind.free), (Str.ofString "vlan", NameKind.free)], isGenerator := false, isCoroutine := false } [(Str.ofString "vlan", a4), (Str.ofString "port", a3), (Str.ofString "number", a2), (Str.ofString "mirrors", a1)] pm c' ctv) :: (c', oc) :: (a1, o1) :: (a2, o2) :: (a3, o3) :: (a4, o4) :: (M, instObj 236 dM) :: (dM, mirD w t1 t2 tm S nM) :: (S, oS) :: l) := ledger_sub N0 (by
    intro q hq
    simp only [List.mem_cons] at hq
    rcases hq with h | h | h | h | h | h | h | h | h | h
    · rw [h]; exact hf
    · rw [h]; exact hc
    · rw [h]; exact h1
    · rw [h]; exact h2
    · rw [h]; exact h3
    · rw [h]; exact h4
    · exact hm q (by simp [h])
    · exact hm q (by simp [h])
    · exact hm q (by simp [h])
    · exact h)
  have hm' : ∀ q ∈ (M, instObj 236 dM) :: (dM, mirD w t1 t2 tm S nM) :: (S, oS) :: ledS w σ, q ∈ (f, kla_obj (Str.ofString "<lambda>") lamQ noArgs (((PySem.Expr.Name (Str.ofString "mirrors") { line := 139, col := 40, endLine := 139, endCol := 47 }).Attribute (Str.ofString "make") { line := 139, col := 40, endLine := 139, endCol := 52 }).Call [PySem.Expr.Name (Str.ofString "number") { line := 139, col := 53, endLine := 139, endCol := 59 }, PySem.Expr.Name (Str.ofString "port") { line := 139, col := 61, endLine := 139, endCol := 65 }, PySem.Expr.Name (Str.ofString "vlan") { line := 139, col := 67, endLine := 139, endCol := 71 }] [] { line := 139, col := 40, endLine := 139, endCol := 72 })
      { kind := ScopeKind.function, names := [(Str.ofString "mirrors", NameKind.free), (Str.ofString "number", NameKind.free), (Str.ofString "port", NameKind.free), (Str.ofString "vlan", NameKind.free)], isGenerator := false, isCoroutine := false } [(Str.ofString "vlan", a4), (Str.ofString "port", a3), (Str.ofString "number", a2), (Str.ofString "mirrors", a1)] pm c' ctv) :: (c', oc) :: (a1, o1) :: (a2, o2) :: (a3, o3) :: (a4, o4) :: (M, instObj 236 dM) :: (dM, mirD w t1 t2 tm S nM) :: (S, oS) :: l := fun q hq => .tail _ (.tail _ (.tail _ (.tail _ (.tail _ (.tail _ (.tail _ (.tail _ (.tail _ (hm q hq)))))))))
  clear N0 hf hc h1 h2 h3 h4 hm
  refine wpAny_call ?_
  refine' kla_code B F X N T rfl rfl hk (.head _) (codeRec_news N (.tail _ (.head _)) hd1 hd2) ?k8 rfl (locs rfl) ?_ rfl rfl rfl (by decide)
  case k8 => ktr_room
  intro g' L' h' FG' F' N' B' X' T'
  (try dsimp only)
  k_steps
  exact hraise _ _ _ _ _ _ (by assumption) (raised_sub (by assumption) (by intro q hq; simp [hq])) (by assumption)

theorem lnLN_6 : True := by
  k_with "call ref" => (k_here; (with_reducible show wpAny _ _ (call (Value.ref 212) _) _ _ _); k_dflt (refine' add_bad ?BQ146 ?FQ146 ?XQ146 ?NQ146 ?TQ146 ?kQ146 ?mQ146 ?dQ146 ?uQ146 ?SQ146 ?lQ146 ?nQ146 ?lenQ146 ?okQ146 ?vQ146 ?_; (case BQ146 => k_asm); (case FQ146 => k_asm); (case XQ146 => k_asm); (case NQ146 => k_asm); (case TQ146 => k_asm); (case kQ146 => exact rfl); (case mQ146 => assumption); (case SQ146 => assumption); (case dQ146 => ktr_room); (case uQ146 => ktr_units); (case lQ146 => assumption); (case nQ146 => assumption); (case lenQ146 => assumption); (case okQ146 => assumption); (case vQ146 => assumption)); intro G' h' tk' e' t' vs' F' R' U'; revert G' h' tk' e' t' vs' F' R' U'; intro _ _ _ _ _ _ _ _ _)
  trivial
theorem lam_add {f c' a1 a2 a3 a4 M dM S : Addr} {oc o1 o2 o3 o4 oS : Obj} {vs : Array Value} {t tn : Tok} {ctv pm : Value} {port : Int} {tp : Tok} {way : Str} {tw : Tok} {t1 t2 tm : Tok} {nM : Nat} {σ : List Ses} {num : Int} {dmax umax : Nat} {l : List (Addr × Obj)}
    (hf : (f, kla_obj (Str.ofString "<lambda>") lamQ noArgs (((PySem.Expr.Name (Str.ofString "mirrors") { line := 145, col := 40, endLine := 145, endCol := 47 }).Attribute (Str.ofString "add_source") { line := 145, col := 40, endLine := 145, endCol := 58 }).Call [PySem.Expr.Name (Str.ofString "number") { line := 145, col := 59, endLine := 145, endCol := 65 }, PySem.Expr.Name (Str.ofString "port") { line := 145, col := 67, endLine := 145, endCol := 71 }, PySem.Expr.Name (Str.ofString "word") { line := 145, col := 73, endLine := 145, endCol := 77 }] [] { line := 145, col := 40, endLine := 145, endCol := 78 })
      { kind := ScopeKind.function, names := [(Str.ofString "mirrors", NameKind.free), (Str.ofString "number", NameKind.free), (Str.ofString "port", NameKind.free), (Str.ofString "word", NameKind.free)], isGenerator := false, isCoroutine := false } [(Str.ofString "word", a4), (Str.ofString "port", a3), (Str.ofString "number", a2), (Str.ofString "mirrors", a1)] pm c' ctv) ∈ l)
    (hc : (c', oc) ∈ l) (hd1 : oc.data = .fields vs) (hd2 : vs[1]? = some (.str lamQ t)) (h1 : (a1, o1) ∈ l) (h2 : (a2, o2) ∈ l) (h3 : (a3, o3) ∈ l) (h4 : (a4, o4) ∈ l) (e1 : o1.data = .cell (some (.ref M))) (e2 : o2.data = .cell (some (.int num tn))) (e3 : o3.data = .cell (some (.int port tp))) (e4 : o4.data = .cell (some (.str way tw)))
    (hm : ∀ q ∈ (M, instObj 236 dM) :: (dM, mirD w t1 t2 tm S nM) :: (S, oS) :: ledS w σ, q ∈ l) (hS : oS.IsDictOf (intKind prog w) (kvM σ)) (lo : (S == sysModules) = false) (hn : (σ.map (·.num)).Nodup) (hl : σ.length ≤ 3) (ok : ∀ c ∈ σ, c.Ok prog w) (bad : (∀ c ∈ σ, c.num ≠ num) ∨ waysL.any (· == way) = false ∨ (σ.any fun c => c.goal = port) = true)
    (hdm : dmax + 300 < recursionLimit) (hum : umax + 300 < cLine) : Refuses prog w p loose mean mg mb f dmax umax l := by
  intro dp un gd cn cs a ccd cl outer A₀ base h₀ L m s Q E B F X N0 T hk hdp hup hraise
  have hd : dp + 300 < recursionLimit := by omega
  have hu : un + 300 < cLine := by omega
  clear hdp hup hdm hum
  have N : News h₀ L s.heap ((f, kla_obj (Str.ofString "<lambda>") lamQ noArgs (((PySem.Expr.Name (Str.ofString "mirrors") { line := 145, col := 40, endLine := 145, endCol := 47 }).Attribute (Str.ofString "add_source") { line := 145, col := 40, endLine := 145, endCol := 58 }).Call [PySem.Expr.Name (Str.ofString "number") { line := 145, col := 59, endLine := 145, endCol := 65 }, PySem.Expr.Name (Str.ofString "port") { line := 145, col := 67, endLine := 145, endCol := 71 }, PySem.Expr.Name (Str.ofString "word") { line := 145, col := 73, endLine := 145, endCol := 77 }] [] { line := 145, col := 40, endLine := 145, endCol := 78 })
      { kind := ScopeKind.function, names := [(Str.ofString "mirrors", NameKind.free), (Str.ofString "number", NameKind.free), (Str.ofString "port", NameKind.free), (Str.ofString "word", NameKind.free)], isGenerator := false, isCoroutine := false } [(Str.ofString "word", a4), (Str.ofString "port", a3), (Str.ofString "number", a2), (Str.ofString "mirrors", a1)] pm c' ctv) :: (c', oc) :: (a1, o1) :: (a2, o2) :: (a3, o3) :: (a4, o4) :: (M, instObj 236 dM) :: (dM, mirD w t1 t2 tm S nM) :: (S, oS) :: l) := ledger_sub N0 (by
    intro q hq
    simp only [List.mem_cons] at hq
    rcases hq with h | h | h | h | h | h | h | h | h | h
    · rw [h]; exact hf
    · rw [h]; exact hc
    · rw [h]; exact h1
    · rw [h]; exact h2
    · rw [h]; exact h3
    · rw [h]; exact h4
    · exact hm q (by simp [h])
    · exact hm q (by simp [h])
    · exact hm q (by simp [h])
    · exact h)
  have hm' : ∀ q ∈ (M, instObj 236 dM) :: (dM, mirD w t1 t2 tm S nM) :: (S, oS) :: ledS w σ, q ∈ (f, kla_obj (Str.ofString "<lambda>") lamQ noArgs (((PySem.Expr.Name (Str.ofString "mirrors") { line := 145, col := 40, endLine := 145, endCol := 47 }).Attribute (Str.ofString "add_source") { line := 145, col := 40, endLine := 145, endCol := 58 }).Call [PySem.Expr.Name (Str.ofString "number") { line := 145, col := 59, endLine := 145, endCol := 65 }, PySem.Expr.Name (Str.ofString "port") { line := 145, col := 67, endLine := 145, endCol := 71 }, PySem.Expr.Name (Str.ofString "word") { line := 145, col := 73, endLine := 145, endCol := 77 }] [] { line := 145, col := 40, endLine := 145, endCol := 78 })
      { kind := ScopeKind.function, names := [(Str.ofString "mirrors", NameKind.free), (Str.ofString "number", NameKind.free), (Str.ofString "port", NameKind.free), (Str.ofString "word", NameKind.free)], isGenerator := false, isCoroutine := false } [(Str.ofString "word", a4), (Str.ofString "port", a3), (Str.ofString "number", a2), (Str.ofString "mirrors", a1)] pm c' ctv) :: (c', oc) :: (a1, o1) :: (a2, o2) :: (a3, o3) :: (a4, o4) :: (M, instObj 236 dM) :: (dM, mirD w t1 t2 tm S nM) :: (S, oS) :: l := fun q hq => .tail _ (.tail _ (.tail _ (.tail _ (.tail _ (.tail _ (.tail _ (.tail _ (.tail _ (hm q hq)))))))))
  clear N0 hf hc h1 h2 h3 h4 hm
  refine wpAny_call ?_
  refine' kla_code B F X N T rfl rfl hk (.head _) (codeRec_news N (.tail _ (.head _)) hd1 hd2) ?k8 rfl (locs rfl) ?_ rfl rfl rfl (by decide)
  case k8 => ktr_room
  intro g' L' h' FG' F' N' B' X' T'
  (try dsimp only)
  k_steps
  exact hraise _ _ _ _ _ _ (by assumption) (raised_sub (by assumption) (by intro q hq; simp [hq])) (by assumption)

theorem lnLN_7 : True := by
  k_with "call ref" => (k_here; (with_reducible show wpAny _ _ (call (Value.ref 219) _) _ _ _); k_dflt (refine' take_bad ?BQ147 ?FQ147 ?XQ147 ?NQ147 ?TQ147 ?kQ147 ?mQ147 ?dQ147 ?uQ147 ?SQ147 ?lQ147 ?nQ147 ?lenQ147 ?okQ147 ?vQ147 ?_; (case BQ147 => k_asm); (case FQ147 => k_asm); (case XQ147 => k_asm); (case NQ147 => k_asm); (case TQ147 => k_asm); (case kQ147 => exact rfl); (case mQ147 => assumption); (case SQ147 => assumption); (case dQ147 => ktr_room); (case uQ147 => ktr_units); (case lQ147 => assumption); (case nQ147 => assumption); (case lenQ147 => assumption); (case okQ147 => assumption); (case vQ147 => assumption)); intro G' h' tk' e' t' vs' F' R' U'; revert G' h' tk' e' t' vs' F' R' U'; intro _ _ _ _ _ _ _ _ _)
  trivial
theorem lam_take {f c' a1 a2 a3 M dM S : Addr} {oc o1 o2 o3 oS : Obj} {vs : Array Value} {t tn : Tok} {ctv pm : Value} {port : Int} {tp : Tok} {t1 t2 tm : Tok} {nM : Nat} {σ : List Ses} {num : Int} {dmax umax : Nat} {l : List (Addr × Obj)}
    (hf : (f, kla_obj (Str.ofString "<lambda>") lamQ noArgs (((PySem.Expr.Name (Str.ofString "mirrors") { line := 150, col := 40, endLine := 150, endCol := 47 }).Attribute (Str.ofString "take_source") { line := 150, col := 40, endLine := 150, endCol := 59 }).Call [PySem.Expr.Name (Str.ofString "number") { line := 150, col := 60, endLine := 150, endCol := 66 }, PySem.Expr.Name (Str.ofString "port") { line := 150, col := 68, endLine := 150, endCol := 72 }] [] { line := 150, col := 40, endLine := 150, endCol := 73 })
      { kind := ScopeKind.function, names := [(Str.ofString "mirrors", NameKind.free), (Str.ofString "number", NameKind.free), (Str.ofString "port", NameKind.free)], isGenerator := false, isCoroutine := false } [(Str.ofString "port", a3), (Str.ofString "number", a2), (Str.ofString "mirrors", a1)] pm c' ctv) ∈ l)
    (hc : (c', oc) ∈ l) (hd1 : oc.data = .fields vs) (hd2 : vs[1]? = some (.str lamQ t)) (h1 : (a1, o1) ∈ l) (h2 : (a2, o2) ∈ l) (h3 : (a3, o3) ∈ l) (e1 : o1.data = .cell (some (.ref M))) (e2 : o2.data = .cell (some (.int num tn))) (e3 : o3.data = .cell (some (.int port tp)))
    (hm : ∀ q ∈ (M, instObj 236 dM) :: (dM, mirD w t1 t2 tm S nM) :: (S, oS) :: ledS w σ, q ∈ l) (hS : oS.IsDictOf (intKind prog w) (kvM σ)) (lo : (S == sysModules) = false) (hn : (σ.map (·.num)).Nodup) (hl : σ.length ≤ 3) (ok : ∀ c ∈ σ, c.Ok prog w) (bad : ∀ c ∈ σ, c.num = num → (valueAt c.kv port).isSome = false)
    (hdm : dmax + 300 < recursionLimit) (hum : umax + 300 < cLine) : Refuses prog w p loose mean mg mb f dmax umax l := by
  intro dp un gd cn cs a ccd cl outer A₀ base h₀ L m s Q E B F X N0 T hk hdp hup hraise
  have hd : dp + 300 < recursionLimit := by omega
  have hu : un + 300 < cLine := by omega
  clear hdp hup hdm hum
  have N : News h₀ L s.heap ((f, kla_obj (Str.ofString "<lambda>") lamQ noArgs (((PySem.Expr.Name (Str.ofString "mirrors") { line := 150, col := 40, endLine := 150, endCol := 47 }).Attribute (Str.ofString "take_source") { line := 150, col := 40, endLine := 150, endCol := 59 }).Call [PySem.Expr.Name (Str.ofString "number") { line := 150, col := 60, endLine := 150, endCol := 66 }, PySem.Expr.Name (Str.ofString "port") { line := 150, col := 68, endLine := 150, endCol := 72 }] [] { line := 150, col := 40, endLine := 150, endCol := 73 })
      { kind := ScopeKind.function, names := [(Str.ofString "mirrors", NameKind.free), (Str.ofString "number", NameKind.free), (Str.ofString "port", NameKind.free)], isGenerator := false, isCoroutine := false } [(Str.ofString "port", a3), (Str.ofString "number", a2), (Str.ofString "mirrors", a1)] pm c' ctv) :: (c', oc) :: (a1, o1) :: (a2, o2) :: (a3, o3) :: (M, instObj 236 dM) :: (dM, mirD w t1 t2 tm S nM) :: (S, oS) :: l) := ledger_sub N0 (by
    intro q hq
    simp only [List.mem_cons] at hq
    rcases hq with h | h | h | h | h | h | h | h | h
    · rw [h]; exact hf
    · rw [h]; exact hc
    · rw [h]; exact h1
    · rw [h]; exact h2
    · rw [h]; exact h3
    · exact hm q (by simp [h])
    · exact hm q (by simp [h])
    · exact hm q (by simp [h])
    · exact h)
  have hm' : ∀ q ∈ (M, instObj 236 dM) :: (dM, mirD w t1 t2 tm S nM) :: (S, oS) :: ledS w σ, q ∈ (f, kla_obj (Str.ofString "<lambda>") lamQ noArgs (((PySem.Expr.Name (Str.ofString "mirrors") { line := 150, col := 40, endLine := 150, endCol := 47 }).Attribute (Str.ofString "take_source") { line := 150, col := 40, endLine := 150, endCol := 59 }).Call [PySem.Expr.Name (Str.ofString "number") { line := 150, col := 60, endLine := 150, endCol := 66 }, PySem.Expr.Name (Str.ofString "port") { line := 150, col := 68, endLine := 150, endCol := 72 }] [] { line := 150, col := 40, endLine := 150, endCol := 73 })
      { kind := ScopeKind.function, names := [(Str.ofString "mirrors", NameKind.free), (Str.ofString "number", NameKind.free), (Str.ofString "port", NameKind.free)], isGenerator := false, isCoroutine := false } [(Str.ofString "port", a3), (Str.ofString "number", a2), (Str.ofString "mirrors", a1)] pm c' ctv) :: (c', oc) :: (a1, o1) :: (a2, o2) :: (a3, o3) :: (M, instObj 236 dM) :: (dM, mirD w t1 t2 tm S nM) :: (S, oS) :: l := fun q hq => .tail _ (.tail _ (.tail _ (.tail _ (.tail _ (.tail _ (.tail _ (.tail _ (hm q hq))))))))
  clear N0 hf hc h1 h2 h3 hm
  refine wpAny_call ?_
  refine' kla_code B F X N T rfl rfl hk (.head _) (codeRec_news N (.tail _ (.head _)) hd1 hd2) ?k8 rfl (locs rfl) ?_ rfl rfl rfl (by decide)
  case k8 => ktr_room
  intro g' L' h' FG' F' N' B' X' T'
  (try dsimp only)
  k_steps
  exact hraise _ _ _ _ _ _ (by assumption) (raised_sub (by assumption) (by intro q hq; simp [hq])) (by assumption)


end
end Mine
end

section
open PySem PySem.W PyProof.Rows PySem.Calls PyProof.Rows.LCg PyProof.Rows.LCt
set_option Elab.async false
set_option maxRecDepth 100000
set_option maxHeartbeats 8000000
namespace Mine
theorem lnO1_0 : True := by
  k_with_none
  w_top off
  k_with "pk" => first | exact pk1 | exact pk2 | exact pk3 | exact pk4 | (refine pkS ?_; k_extra "pk")
  k_with "ne" => (refine neN ?_; (try dsimp only); with_reducible first | assumption | exact .symm (by assumption) | exact pk2 (by assumption) | exact pk4 (by assumption) | (refine pkH (by assumption) ?_; k_extra "pk") | (refine pkL (by assumption) ?_; k_extra "pk") | fail)
  k_with "room" => first | exact rmA (by assumption) rfl | exact rmB (by assumption) rfl | exact rmC (by assumption) rfl | fail
  trivial
section
variable {prog : Program} {w : World} {p : Program} {loose : List Str} {mean : ExcName → Option Value} {mg mb : Str → Option Value} {dp un : Nat} {gd : Option (List Code)} {cn : Str} {cs : Scope} {a : Addr} {ccd : Value} {cl : List (Str × Addr)} {outer : List Env} {A₀ : Around} {base h₀ : Heap} {L : Addr} {m : Str → Option Value} {s : Shared} {Q E : Value → Shared → Prop} {news : List (Addr × Obj)}


theorem lnO1_1 : True := by
  k_with "exec Raise some none" => (k_here; k_dflt (refine raise_own (by rfl) ?_))
  k_with "call ref" => (k_here; (with_reducible show wpAny _ _ (call (Value.ref 51) _) _ _ _); (refine' exc_make ?BQ149 ?FQ149 ?XQ149 ?NQ149 ?TQ149 ?kQ149 ?dQ149 ?uQ149 ?_; (case BQ149 => k_asm); (case FQ149 => k_asm); (case XQ149 => k_asm); (case NQ149 => k_asm); (case TQ149 => k_asm); (case kQ149 => first | exact rfl | assumption); (case dQ149 => ktr_room); (case uQ149 => ktr_units)); intro h' tk' e' t1' d1' F' N' o1' o2' o3'; revert h' tk' e' t1' d1' F' N' o1' o2' o3'; intro _ _ _ _ _ _ _ _ _ _)
  k_with "RaisableX" => (k_here; refine ⟨_, _, _, rfl, (‹News _ _ _ ((_, excOd _ _) :: _)› _ (.head _)).1, rfl, rfl, rfl, Frag.In.keeps (by k_asm) (Fr.keep (by k_asm)), ?_⟩)
  k_with "leaving ref" => (k_here; (refine' leave_raiseZ ?BQ151 ?FQ151 ?NQ151 ?o1Q151 ?o2Q151 ?o3Q151 ?_; (case BQ151 => k_asm); (case FQ151 => k_asm); (case NQ151 => k_asm); (case o1Q151 => assumption); (case o2Q151 => assumption); (case o3Q151 => assumption)); intro h' R' U'; (try dsimp only at R' U' ⊢); revert h' R' U'; intro _ _ _)
  k_with "leaving ref" => (k_here; (refine' leave_onS ?k1Q152 ?k2Q152 ?k3Q152 ?k4Q152 ?_; (case k3Q152 => assumption); (case k1Q152 => assumption); (case k4Q152 => assumption); (case k2Q152 => assumption); k_whole; intro h' R' K' U'; (try dsimp only at R' U' ⊢); revert h' R' K' U'; intro _ _ _ _))
  trivial
local macro_rules | `(tactic| k_room) => `(tactic| ktr_room)
theorem pool_spec {sc : Addr} {vs : List Value} {ns : List Int} {tk0 : Tok}
    (B : Below A₀ base outer h₀) (F : Fr h₀ L s.heap m) (X : (pre.heap_1 w.params).In h₀) (N : News h₀ L s.heap news) (T : Top p loose mean mg mb h₀) (hk : cs.kind = .function)
    (hl : h₀.IsList sc vs.toArray) (hi : IntsAre vs ns) (hlen : ns.length ≤ 63)
    (hd : dp + 300 < recursionLimit) (hu : un + 300 < cLine)
    (hret : ∀ h' tk (src : Addr) (x y : Int) (tx ty : Tok) (n : Nat), 0 ≤ y → y < 2147483647 → Fr h₀ L h' m → News h₀ L h' ((src, listOf #[.int x tx, .int y ty] n) :: news) → (∀ q ∈ news, q.1 < src) → Q (.ref src) { s with heap := h', toks := tk }) :
    wpAny (model prog w) (ktrTop dp un gd cn cs L a ccd cl outer) (call (.ref 247) [.ref sc, .int 0 tk0]) Q E s := by
  refine wpAny_call ?_
  k_dflt ktr_enter
  rename_i g1 L1 h1 FG1 F1 N1 B1 X1 T1
  have hl1 : g1.IsList sc vs.toArray := hl.at fun o e => FG1.keep _ o e
  clear hl
  k_steps
  all_goals exact hret _ _ _ _ _ _ _ _ (Int.fmod_nonneg_of_pos _ (by decide)) (Int.fmod_lt_of_pos _ (by decide)) (by assumption) (by assumption) (by assumption)

end
end Mine
end

section
open PySem PySem.W PyProof.Rows PySem.Calls PyProof.Rows.LCg PyProof.Rows.LCt
set_option Elab.async false
set_option maxRecDepth 100000
set_option maxHeartbeats 8000000
namespace Mine
theorem lnL4_0 : True := by
  k_with_none
  w_top off
  k_with "pk" => first | exact pk1 | exact pk2 | exact pk3 | exact pk4 | (refine pkS ?_; k_extra "pk")
  k_with "ne" => (refine neN ?_; (try dsimp only); with_reducible first | assumption | exact .symm (by assumption) | exact pk2 (by assumption) | exact pk4 (by assumption) | (refine pkH (by assumption) ?_; k_extra "pk") | (refine pkL (by assumption) ?_; k_extra "pk") | fail)
  k_with "room" => first | exact rmA (by assumption) rfl | exact rmB (by assumption) rfl | exact rmC (by assumption) rfl | fail
  trivial
section
variable {prog : Program} {w : World} {A : Around} {E : Value → Shared → Prop} {s : Shared} {h₀ : Heap} {L : Addr} {m : Str → Option Value} {env : Env}

/-- values that look like data, one by one -/
noncomputable def DRows (news : List (Addr × Obj)) (k : Nat) (ys : List Value) (ds : List Dat) : Prop := ys.length = ds.length ∧ ∀ (j : Nat) v d, ys[j]? = some v → ds[j]? = some d → Vw news k v d
theorem DRows.nil {news : List (Addr × Obj)} {k : Nat} : DRows news k [] [] := ⟨rfl, fun j v d h _ => by simp at h⟩
theorem DRows.mono {news news' : List (Addr × Obj)} {k : Nat} {ys : List Value} {ds : List Dat} (h : DRows news k ys ds) (hs : ∀ q ∈ news, q ∈ news') : DRows news' k ys ds := ⟨h.1, fun j v d h1 h2 => (h.2 j v d h1 h2).mono hs⟩
theorem DRows.snoc {news news' : List (Addr × Obj)} {k : Nat} {ys : List Value} {ds : List Dat} {v : Value} {d : Dat} (h : DRows news k ys ds) (hs : ∀ q ∈ news, q ∈ news') (hv : Vw news' k v d) : DRows news' k (ys ++ [v]) (ds ++ [d]) := by
  refine ⟨by simp [h.1], fun j v' d' h1 h2 => ?_⟩
  by_cases hj : j < ys.length
  · rw [List.getElem?_append_left hj] at h1
    rw [List.getElem?_append_left (h.1 ▸ hj)] at h2
    exact (h.2 j v' d' h1 h2).mono hs
  · rw [List.getElem?_append_right (Nat.le_of_not_lt hj)] at h1
    rw [List.getElem?_append_right (Nat.le_of_not_lt (h.1 ▸ hj)), ← h.1] at h2
    match hk : j - ys.length with
    | 0 => rw [hk] at h1 h2; cases h1; cases h2; exact hv
    | k + 1 => rw [hk] at h1; simp at h1
theorem DRows.list {news : List (Addr × Obj)} {k n : Nat} {D : Addr} {ys : List Value} {ds : List Dat} (h : DRows news k ys ds) (hm : (D, listOf (List.toArray ys) n) ∈ news) : Vw news (k + 1) (.ref D) (.list ds) := by
  refine .list hm rfl rfl (by simp [h.1]) ?_
  intro j v x hv hx
  exact h.2 j v x (by simpa using hv) hx

/-- the tags, the parts and the pair that are due for a session and a frame -/
noncomputable def tagsDat (c : Ses) (f : Frm) : List Dat := (match c.vl with
  | .int v _ => [.tuple [.int 33024, .int 0, .bool false, .int v]]
  | _ => []) ++ f.tags.map tagDat
noncomputable def partsDat (c : Ses) (f : Frm) : Dat := .list [.int f.v1, .int f.v2, .list (tagsDat c f), .int f.v4, .leaf (.bytes f.v5 f.k5)]
noncomputable def dueDat (c : Ses) (f : Frm) : Dat := .tuple [.int c.goal, partsDat c f]
theorem copied_dat {c : Ses} {f f' : Frm} (h : Copied c.vl f f') (hv : c.vl = .none ∨ ∃ v t, c.vl = .int v t) : frmDat f' = partsDat c f := by
  obtain ⟨h1, h2, h3, h4, h5, h6, h7⟩ := h
  unfold frmDat partsDat tagsDat
  rcases hv with e | ⟨v, t, e⟩
  · rw [h1, h2, h3, h4, h5, h6 e, e]; rfl
  · obtain ⟨g, e1, e2, e3, e4, e5⟩ := h7 v t e
    rw [h1, h2, h3, h4, h5, e, e1]
    show Dat.list [_, _, .list (tagDat g :: f.tags.map tagDat), _, _] = _
    unfold tagDat
    rw [e2, e3, e4, e5]
    rfl

noncomputable def PairTurn (prog : Program) (w : World) (A : Around) (h₀ : Heap) (L : Addr) (m : Str → Option Value) (env : Env) (elt : PySem.Expr) (scope : Scope) (cl : List (Str × Addr)) (s : Shared) (S : List (Addr × Obj) → Prop) (nw : List (Addr × Obj)) (d : Dat) (I : Addr) (oI : Obj) (C : Addr) (oC : Obj) (D : Addr) (oD : Obj) (E' : Value → Shared → Prop) : Prop :=
  wpAny (model prog w) A (eval elt (compEnvC scope cl C env)) (CompEnd h₀ L m s I oI C oC D oD S (fun y news' => ∃ own, news' = own ++ nw ∧ Vw news' 4 y d)) E' s

noncomputable def PSrcA (prog : Program) (w : World) (A : Around) (h₀ : Heap) (L : Addr) (m : Str → Option Value) (env : Env) (elt : PySem.Expr) (x x₂ y : Str) (scope : Scope) (cl : List (Str × Addr)) (Q : Flow → Shared → Prop) (xv : Value) (s₁ : Shared) : Prop :=
  ∃ (ax : Addr) (n : Nat) (cps : List Cp) (f : Frm) (news : List (Addr × Obj)), xv = .ref ax ∧ A.handled = none ∧ Fr h₀ L s₁.heap m ∧ News h₀ L s₁.heap news ∧ (ax, listOf (List.toArray (cps.map fun cp => Value.ref cp.tup)) n) ∈ news ∧ cps.length ≤ 100 ∧ (∀ cp ∈ cps, cp.Ok w f news) ∧
    (∀ cp I oI C oC D m₂ ys h tk E' add, cp ∈ cps → NsObj oC m₂ → m₂ x = some (.int cp.c.goal cp.c.gt) → m₂ x₂ = some (.ref cp.f.inst) → Fr h₀ L h m → News h₀ L h ((I, oI) :: (C, oC) :: (D, lst ys) :: (add ++ news)) → Off3 I C D (add ++ news) → ((@Ne Nat I C) ∧ (@Ne Nat I D) ∧ (@Ne Nat C D)) →
      PairTurn prog w A h₀ L m env elt scope cl { s₁ with heap := h, toks := tk } (fun nw => (ax, listOf (List.toArray (cps.map fun cp => Value.ref cp.tup)) n) ∈ nw) (add ++ news) (dueDat cp.c f) I oI C oC D (lst ys) E') ∧
    (∀ ys D h tk add, DRows (add ++ news) 4 ys (cps.map fun cp => dueDat cp.c f) → Fr h₀ L h (fun z => if z = y then some (.ref D) else m z) → News h₀ L h ((D, lst ys) :: (add ++ news)) → Off1 D (add ++ news) → Q .next { s₁ with heap := h, toks := tk })

theorem assign_pairs {elt iter : PySem.Expr} {x x₂ y : Str} {px px₂ tp py : Pos} {tk} {scope : Scope} {cl : List (Str × Addr)} {pos spos : Pos} {Q : Flow → Shared → Prop} (F₀ : Fr h₀ L s.heap m) (hLe : env.locals = L)
    (hsw : swapsWith (.ListComp elt [⟨.Tuple [.Name x px, .Name x₂ px₂] tk tp, iter, [], 0⟩] scope pos) (some (.Name y py)) spos.line env = pure true)
    (hclos : closureFor scope env = pure cl) (hcell : ∀ z ∈ scope.names, z.2 ≠ .cell) (hkind : scope.kind = .function)
    (hnames : ∀ z ∈ scope.names, z.2 = .local → scope.names.lookup z.1 = some .local) (hx : scope.names.lookup x = some .local) (hx₂ : scope.names.lookup x₂ = some .local) (hxx : x ≠ x₂)
    (hy : env.kindOf y = some .local) (hp : (env.scope.kind == .class || (env.scope.kind == .module && env.locals != env.globals)) = false)
    (h : wpAny (model prog w) A (eval iter env) (PSrcA prog w A h₀ L m env elt x x₂ y scope cl Q) E s)
    (hs : ∀ x, foldedSetIterable iter env x = pure x := by intro _; rfl) :
    wpAny (model prog w) A (exec (.Assign [.Name y py] (.ListComp elt [⟨.Tuple [.Name x px, .Name x₂ px₂] tk tp, iter, [], 0⟩] scope pos) spos) env) Q E s := by
  refine LCp.Assign_ListComp_P F₀ hLe hsw hclos hcell hkind hnames hx hx₂ hxx hy hp (wpAny_mono h (fun xv s₁ h₁ => ?_) fun _ _ e => e) hs
  obtain ⟨ax, n, cps, f, news, rfl, hh, F, N, hm, hlen, hok, turn, fin⟩ := h₁
  refine ⟨ax, List.toArray (cps.map fun cp => Value.ref cp.tup), news, rfl, hh, F, N, .inr ⟨_, hm, rfl, _, rfl⟩, by rw [PySem.sizeLine_eq, List.size_toArray, List.length_map]; omega, ?_⟩
  rintro s₂ ⟨H, rfl⟩
  have key : ∀ (j i : Nat) (ys : List Value) (add : List (Addr × Obj)), i + j = cps.length → DRows (add ++ news) 4 ys ((cps.take i).map fun cp => dueDat cp.c f) →
      LCp.CompRestP prog w A h₀ L m env elt x x₂ scope cl { s₁ with heap := H } (SrcAt h₀ ax (List.toArray (cps.map fun cp => Value.ref cp.tup))) (fun i v => (List.toArray (cps.map fun cp => Value.ref cp.tup))[i]? = some v) (FinA h₀ L m { s₁ with heap := H } y Q) j i ys (add ++ news) := by
    intro j
    induction j with
    | zero =>
      intro i ys add hi hr
      obtain rfl : i = cps.length := by omega
      rw [List.take_length] at hr
      exact LCp.CompRestP.zero fun D h tk F' N' o => fin ys D h tk add hr F' N' o
    | succ j ih =>
      intro i ys add hi hr
      refine LCp.CompRestP.succ fun v hv => ?_
      obtain ⟨cp, hg⟩ : ∃ g, cps[i]? = some g := ⟨cps[i]'(by omega), List.getElem?_eq_getElem (by omega)⟩
      have hv' : v = .ref cp.tup := by
        have : (cps.map fun cp => Value.ref cp.tup)[i]? = some v := by simpa using hv
        rw [List.getElem?_map, hg] at this
        exact (Option.some.inj this).symm
      have hcp := List.mem_of_getElem? hg
      refine ⟨cp.tup, _, _, _, _, hv', List.mem_append_right _ (hok cp hcp).1, rfl, rfl, ?_⟩
      intro I oI C oC D m₂ h tk E' hC hx hy F' N' off ne
      refine wpAny_mono (turn cp I oI C oC D m₂ ys h tk E' add hcp hC hx hy F' N' off ne) (fun y s₄ hr' => ?_) fun _ _ e => e
      obtain ⟨h', tk', nw, e, F₂, N₂, off₂, hS, own, rfl, hvw⟩ := hr'
      refine ⟨h', tk', _, e, F₂, N₂, off₂, .inr ⟨_, hS, rfl, _, rfl⟩, ?_⟩
      have := ih (i + 1) (ys ++ [y]) (own ++ add) (by omega) (by
        rw [List.take_add_one, hg]
        rw [List.append_assoc]
        simp only [Option.toList_some, List.map_append, List.map_cons, List.map_nil]
        exact hr.snoc (fun q hq => List.mem_append_right _ hq) hvw)
      rwa [List.append_assoc] at this
  have R := key cps.length 0 [] [] (by omega) DRows.nil
  rw [show (List.toArray (cps.map fun cp => Value.ref cp.tup)).size = cps.length from by simp]
  exact R
end
end Mine
end

section
open PySem PySem.W PyProof.Rows PySem.Calls
set_option Elab.async false
set_option maxRecDepth 100000
set_option maxHeartbeats 4000000
namespace Mine
theorem lnD26_0 : True := by
  k_with_none
  w_top off
  k_with "pk" => first | exact pk1 | exact pk2 | exact pk3 | exact pk4 | (refine pkS ?_; k_extra "pk")
  k_with "ne" => (refine neN ?_; (try dsimp only); with_reducible first | assumption | exact .symm (by assumption) | exact pk2 (by assumption) | exact pk4 (by assumption) | (refine pkH (by assumption) ?_; k_extra "pk") | (refine pkL (by assumption) ?_; k_extra "pk") | fail)
  k_with "room" => first | exact rmA (by assumption) rfl | exact rmB (by assumption) rfl | exact rmC (by assumption) rfl | fail
  trivial
section
variable {prog : Program} {w : World} {M dM S O src : Addr} {oS oO oS' oO' : Obj} {t1 t2 tm tx ty : Tok} {nM nn : Nat} {x y : Int} {ps ps' : Array Value} {σ : List Ses} {oth newc : List (Addr × Obj)}

theorem perm_mid {a b n : List Nat} {z : List Nat} : (z ++ (a ++ (n ++ b))).Perm (n ++ (z ++ (a ++ b))) := by
  have h1 : (z ++ (a ++ (n ++ b))) = (z ++ a) ++ (n ++ b) := by simp
  have h2 : (n ++ (z ++ (a ++ b))) = n ++ ((z ++ a) ++ b) := by simp
  rw [h1, h2, ← List.append_assoc, ← List.append_assoc]
  exact List.Perm.append_right b List.perm_append_comm
theorem st_addrs : (stLed w M dM S O src t1 t2 tm nM oS oO x y tx ty nn ps σ oth).map (·.1) = [M, dM, S, O, src, 285] ++ ((ledS w σ).map (·.1) ++ oth.map (·.1)) := by
  simp [stLed]
theorem inv_nd (nd : ((M :: dM :: S :: O :: src :: 285 :: (ledS w σ ++ oth).map (·.1)) : List Nat).Nodup) : (([M, dM, S, O, src, 285] : List Nat) ++ (((ledS w σ).map (·.1) : List Nat) ++ (oth.map (·.1) : List Nat))).Nodup := by
  simpa using nd
theorem inv_nd' (nd : (([M, dM, S, O, src, 285] : List Nat) ++ (((ledS w σ).map (·.1) : List Nat) ++ (oth.map (·.1) : List Nat))).Nodup) : ((M :: dM :: S :: O :: src :: 285 :: (ledS w σ ++ oth).map (·.1)) : List Nat).Nodup := by
  simpa using nd
theorem nodup_new {n z : List Nat} (h1 : n.Nodup) (h2 : z.Nodup) (h : ∀ a ∈ n, ∀ b ∈ z, b < a) : (n ++ z).Nodup :=
  List.nodup_append.mpr ⟨h1, h2, fun a ha b hb e => Nat.lt_irrefl b (e ▸ h a ha b hb)⟩

theorem Inv.bad (I : Inv prog w M dM S O src oS oO ps σ oth) {c' : Addr} {oc : Obj} (tab' : TabOk ps' (newc ++ oth)) (hn : newc = [] ∨ newc = [(c', oc)])
    (fr : ∀ q ∈ newc, ∀ p ∈ stLed w M dM S O src t1 t2 tm nM oS oO x y tx ty nn ps σ oth, p.1 < q.1) : Inv prog w M dM S O src oS oO ps' σ (newc ++ oth) := by
  obtain ⟨nd, hS, hO, loS, loO, nn', hl, ok, tab, ky⟩ := I
  refine ⟨inv_nd' ?_, hS, hO, loS, loO, nn', hl, ok, tab', ky⟩
  rw [List.map_append]
  refine perm_mid.nodup_iff.mpr (nodup_new ?_ (inv_nd nd) ?_)
  · rcases hn with rfl | rfl <;> simp
  · intro a ha b hb
    obtain ⟨q, hq, rfl⟩ := List.mem_map.mp ha
    rw [← st_addrs (t1 := t1) (t2 := t2) (tm := tm) (nM := nM) (oS := oS) (oO := oO) (x := x) (y := y) (tx := tx) (ty := ty) (nn := nn) (ps := ps)] at hb
    obtain ⟨p, hp, rfl⟩ := List.mem_map.mp hb
    exact fr q hq p hp

theorem ledS_app {σ τ : List Ses} : ledS w (σ ++ τ) = ledS w σ ++ ledS w τ := List.flatMap_append
theorem ledS_one {c : Ses} : ledS w [c] = c.led w := by simp [ledS]
theorem ledS_cons {c : Ses} {τ : List Ses} : ledS w (c :: τ) = c.led w ++ ledS w τ := by simp [ledS]

theorem Inv.make (I : Inv prog w M dM S O src oS oO ps σ oth) {c : Ses} (hc : c.Ok prog w) (hky : ∀ k ∈ c.kv.map (·.1), 1 ≤ k ∧ k ≤ 6) (hnum : c.num ∉ σ.map (·.num)) (hlen : σ.length < 3)
    (hS' : oS'.IsDictOf (intKind prog w) (kvM (σ ++ [c]))) (hO' : oO'.IsDictOf (intKind prog w) (kvO (σ ++ [c])))
    (fr : (([c.inst, c.dict, c.src, c.lst, c.src2] : List Nat)).Nodup)
    (fr2 : ∀ a ∈ ([c.inst, c.dict, c.src, c.lst, c.src2] : List Nat), ∀ p ∈ stLed w M dM S O src t1 t2 tm nM oS oO x y tx ty nn ps σ oth, p.1 < a) : Inv prog w M dM S O src oS' oO' ps (σ ++ [c]) oth := by
  obtain ⟨nd, hS, hO, loS, loO, nn', hl, ok, tab, ky⟩ := I
  refine ⟨inv_nd' ?_, hS', hO', loS, loO, ?_, ?_, ?_, tab, ?_⟩
  · rw [ledS_app, ledS_one, List.map_append, List.append_assoc]
    refine perm_mid.nodup_iff.mpr (nodup_new fr (inv_nd nd) ?_)
    intro a ha b hb
    rw [← st_addrs (t1 := t1) (t2 := t2) (tm := tm) (nM := nM) (oS := oS) (oO := oO) (x := x) (y := y) (tx := tx) (ty := ty) (nn := nn) (ps := ps)] at hb
    obtain ⟨p, hp, rfl⟩ := List.mem_map.mp hb
    exact fr2 a ha p hp
  · rw [List.map_append]
    refine List.nodup_append.mpr ⟨nn', by simp, fun a ha b hb e => hnum ?_⟩
    simp only [List.map_cons, List.map_nil, List.mem_singleton] at hb
    rw [← hb, ← e]; exact ha
  · simp; omega
  · intro d hd
    rcases List.mem_append.mp hd with hd | hd
    · exact ok d hd
    · rw [List.mem_singleton.mp hd]; exact hc
  · intro d hd
    rcases List.mem_append.mp hd with hd | hd
    · exact ky d hd
    · rw [List.mem_singleton.mp hd]; exact hky

theorem ledS_sub {p : Ses → Bool} : ∀ σ : List Ses, (ledS w (σ.filter p)).Sublist (ledS w σ)
  | [] => List.Sublist.refl _
  | c :: r => by
    rw [List.filter_cons]
    split
    · rw [ledS_cons, ledS_cons]; exact (List.Sublist.refl _).append (ledS_sub r)
    · rw [ledS_cons]; exact (ledS_sub r).trans (List.sublist_append_right _ _)
theorem Inv.remove (I : Inv prog w M dM S O src oS oO ps σ oth) {k : Int} (hS' : oS'.IsDictOf (intKind prog w) (without (kvM σ) k)) (hO' : oO'.IsDictOf (intKind prog w) (without (kvO σ) k)) : Inv prog w M dM S O src oS' oO' ps (σ.filter fun c => c.num ≠ k) oth := by
  obtain ⟨nd, hS, hO, loS, loO, nn', hl, ok, tab, ky⟩ := I
  refine ⟨inv_nd' ((inv_nd nd).sublist ?_), ?_, ?_, loS, loO, nn'.sublist (List.filter_sublist.map _), Nat.le_trans (List.length_filter_le _ _) hl, fun c hc => ok c (List.mem_filter.mp hc).1, tab, fun c hc => ky c (List.mem_filter.mp hc).1⟩
  · exact (List.Sublist.refl _).append (((ledS_sub σ).map _).append (List.Sublist.refl _))
  · exact Eq.mp (congrArg (fun l => oS'.IsDictOf (intKind prog w) l) (without_map Ses.num (fun c => Value.ref c.inst) σ k)) hS'
  · exact Eq.mp (congrArg (fun l => oO'.IsDictOf (intKind prog w) l) (without_map Ses.num (fun c => Value.ref c.lst) σ k)) hO'
theorem led_remove {k : Int} : ∀ q ∈ ledS w (σ.filter fun c => c.num ≠ k), q ∈ ledS w σ := fun _ hq => (ledS_sub σ).subset hq

noncomputable abbrev Ses.upd (c : Ses) (kv kv2 : List (Int × Value)) (so so2 : Obj) : Ses := { c with kv := kv, kv2 := kv2, so := so, so2 := so2 }
theorem Inv.upd {σ1 σ2 : List Ses} {c : Ses} {kv kv2 : List (Int × Value)} {so so2 : Obj} (I : Inv prog w M dM S O src oS oO ps (σ1 ++ c :: σ2) oth)
    (hk : Ses.Ok prog w (c.upd kv kv2 so so2)) (hky : ∀ k ∈ kv.map (·.1), 1 ≤ k ∧ k ≤ 6) : Inv prog w M dM S O src oS oO ps (σ1 ++ c.upd kv kv2 so so2 :: σ2) oth := by
  obtain ⟨nd, hS, hO, loS, loO, nn', hl, ok, tab, ky⟩ := I
  refine ⟨?_, ?_, ?_, loS, loO, ?_, ?_, ?_, tab, ?_⟩
  · refine inv_nd' ?_
    have := inv_nd nd
    rw [ledS_app, ledS_cons, List.map_append, List.map_append] at this ⊢
    exact this
  · have e : kvM (σ1 ++ c.upd kv kv2 so so2 :: σ2) = kvM (σ1 ++ c :: σ2) := by simp [kvM]
    rw [e]; exact hS
  · have e : kvO (σ1 ++ c.upd kv kv2 so so2 :: σ2) = kvO (σ1 ++ c :: σ2) := by simp [kvO]
    rw [e]; exact hO
  · have e : (σ1 ++ c.upd kv kv2 so so2 :: σ2).map (·.num) = (σ1 ++ c :: σ2).map (·.num) := by simp
    rw [e]; exact nn'
  · have e : (σ1 ++ c.upd kv kv2 so so2 :: σ2).length = (σ1 ++ c :: σ2).length := by simp
    rw [e]; exact hl
  · intro d hd
    rcases List.mem_append.mp hd with hd | hd
    · exact ok d (List.mem_append_left _ hd)
    · rcases List.mem_cons.mp hd with rfl | hd
      · exact hk
      · exact ok d (List.mem_append_right _ (.tail _ hd))
  · intro d hd
    rcases List.mem_append.mp hd with hd | hd
    · exact ky d (List.mem_append_left _ hd)
    · rcases List.mem_cons.mp hd with rfl | hd
      · exact hky
      · exact ky d (List.mem_append_right _ (.tail _ hd))
end
end Mine
end

section
open PySem PySem.W PyProof.Rows PySem.Calls PyProof.Rows.LCg PyProof.Rows.LCt
set_option Elab.async false
set_option maxRecDepth 100000
set_option maxHeartbeats 4000000
namespace Mine
theorem lnD27_0 : True := by
  k_with_none
  w_top off
  k_with "pk" => first | exact pk1 | exact pk2 | exact pk3 | exact pk4 | (refine pkS ?_; k_extra "pk")
  k_with "ne" => (refine neN ?_; (try dsimp only); with_reducible first | assumption | exact .symm (by assumption) | exact pk2 (by assumption) | exact pk4 (by assumption) | (refine pkH (by assumption) ?_; k_extra "pk") | (refine pkL (by assumption) ?_; k_extra "pk") | fail)
  k_with "room" => first | exact rmA (by assumption) rfl | exact rmB (by assumption) rfl | exact rmC (by assumption) rfl | fail
  trivial
section
variable {prog : Program} {w : World} {σ : List Ses} {num goal port : Int}
theorem keys_MO {k : Int} : (valueAt (kvM σ) k).isSome = (valueAt (kvO σ) k).isSome := by
  rw [valueAt_isSome, valueAt_isSome, kvM, kvO, List.map_map, List.map_map]; rfl
theorem mk1 (h : (valueAt (kvO σ) num).isSome = true) : ¬ MakeOk σ num goal := fun ⟨h1, _⟩ => by
  rw [keys_MO, h] at h1; cases h1
theorem mk2 (h : 3 ≤ σ.length) : ¬ MakeOk σ num goal := fun ⟨_, h2, _⟩ => by omega
theorem any_goals : ((σ.map (·.goal)).any (· == port)) = σ.any fun c => c.goal = port := by
  rw [List.any_map]; congr 1
theorem any_srcs : ∀ {σ : List Ses}, (∀ c ∈ σ, c.Ok prog w) → ((σ.flatMap fun c => c.kv2.map (·.1)).any (· == port)) = σ.any fun c => (valueAt c.kv port).isSome
  | [], _ => rfl
  | c :: r, ok => by
    rw [List.flatMap_cons, List.any_append, List.any_cons, any_srcs fun d hd => ok d (.tail _ hd)]
    congr 1
    rw [same_isSome (ok c (.head _)).same, valueAt_isSome, Bool.eq_iff_iff, List.any_eq_true, decide_eq_true_iff]
    constructor
    · rintro ⟨x, hx, e⟩; rw [← eq_of_beq e]; exact hx
    · exact fun h => ⟨_, h, beq_self_eq_true _⟩
theorem mk3 (ok : ∀ c ∈ σ, c.Ok prog w) (h : ((σ.map (·.goal) ++ σ.flatMap fun c => c.kv2.map (·.1)).any (· == port)) = true) : ¬ MakeOk σ num port := fun ⟨_, _, h3, h4⟩ => by
  rw [List.any_append, any_goals, any_srcs ok, h3, h4] at h; cases h
theorem mk4 (ok : ∀ c ∈ σ, c.Ok prog w) (h1 : (valueAt (kvO σ) num).isSome = false) (h2 : σ.length < 3) (h : ((σ.map (·.goal) ++ σ.flatMap fun c => c.kv2.map (·.1)).any (· == port)) = false) : MakeOk σ num port := by
  rw [List.any_append, any_goals, any_srcs ok] at h
  have := Bool.or_eq_false_iff.mp h
  exact ⟨keys_MO ▸ h1, h2, this.1, this.2⟩
end
section
variable {prog : Program} {w : World} {p : Program} {loose : List Str} {mean : ExcName → Option Value} {mg mb : Str → Option Value} {dp un : Nat} {gd : Option (List Code)} {cn : Str} {cs : Scope} {a : Addr} {ccd : Value} {cl : List (Str × Addr)} {outer : List Env} {A₀ : Around} {base h₀ : Heap} {L : Addr} {m : Str → Option Value} {s : Shared} {Q E : Value → Shared → Prop} {news : List (Addr × Obj)}
theorem back_nil {h₀' h : Heap} {fs : List Addr} (hfs : fs = []) (T : KtsTurn fs h₀ h₀') (F : Fr h₀' L h m) (N : News h₀' L h news) : Fr h₀ L h m ∧ News h₀ L h news := by
  subst hfs
  have o : ∀ b o, h₀.get? b = some o → h₀'.get? b = some o := fun b o e => T.other b o e (fun h => nomatch h)
  refine ⟨⟨F.ns, fun b o' e => F.keep b o' (o b o' e), T.size ▸ F.above⟩, fun q hq => ⟨(N q hq).1, (N q hq).2.1, ?_⟩⟩
  have z := (N q hq).2.2
  cases e : h₀.get? q.1 with
  | none => rfl
  | some x => rw [o _ _ e] at z; cases z

theorem mid_mem1 {q x : Addr × Obj} {pre post : List (Addr × Obj)} (h : q ∈ x :: (pre ++ post)) : q ∈ pre ++ x :: post := by
  simp only [List.mem_cons, List.mem_append] at h ⊢
  rcases h with h | h | h
  · exact .inr (.inl h)
  · exact .inl h
  · exact .inr (.inr h)
theorem mid_mem2 {q x : Addr × Obj} {pre post : List (Addr × Obj)} (h : q ∈ pre ++ x :: post) : q ∈ x :: (pre ++ post) := by
  simp only [List.mem_cons, List.mem_append] at h ⊢
  rcases h with h | h | h
  · exact .inr (.inl h)
  · exact .inl h
  · exact .inr (.inr h)
theorem mid_ne {q x : Addr × Obj} {pre post : List (Addr × Obj)} (h : q ∈ pre ++ x :: post) (hne : q.1 ≠ x.1) : q ∈ pre ++ post := by
  rcases List.mem_cons.mp (mid_mem2 h) with rfl | h
  · exact absurd rfl hne
  · exact h

theorem make_specU {M dM S : Addr} {oS : Obj} {t1 t2 tm : Tok} {nM : Nat} {σ : List Ses} {num goal : Int} {tn tg : Tok} {vl : Value} {g : Obj → List (Addr × Obj)}
    (B : Below A₀ base outer h₀) (F : Fr h₀ L s.heap m) (X : (pre.heap_1 w.params).In h₀) (N : News h₀ L s.heap news) (T : Top p loose mean mg mb h₀) (hk : cs.kind = .function) (U : UpdF S oS news g)
    (hm : ∀ q ∈ (M, instObj 236 dM) :: (dM, mirD w t1 t2 tm S nM) :: ledS w σ, q ∈ news) (hne : ∀ q ∈ (M, instObj 236 dM) :: (dM, mirD w t1 t2 tm S nM) :: ledS w σ, q.1 ≠ S)
    (hd : dp + 240 < recursionLimit) (hu : un + 200 < cLine) (hS : oS.IsDictOf (intKind prog w) (kvM σ)) (lo : (S == sysModules) = false) (hn : (σ.map (·.num)).Nodup) (hl : σ.length ≤ 3) (ok : ∀ c ∈ σ, c.Ok prog w) (good : MakeOk σ num goal)
    (hret : ∀ h' tk inst d src so oS' s1 s2 s3 n1, Fr h₀ L h' m → News h₀ L h' ((inst, instObj 161 d) :: (d, dictOf [⟨PyData.keyHash w.params (Str.ofString "goal"), .str (Str.ofString "goal") s1, .int goal tg⟩, ⟨PyData.keyHash w.params (Str.ofString "vlan"), .str (Str.ofString "vlan") s2, vl⟩, ⟨PyData.keyHash w.params (Str.ofString "sources"), .str (Str.ofString "sources") s3, .ref src⟩] n1) :: (src, so) :: g oS') →
      oS'.IsDictOf (intKind prog w) (stored (kvM σ) num (.ref inst)) → so.IsDictOf (intKind prog w) [] → (src == sysModules) = false → (∀ q ∈ news, q.1 < d) → d < inst → inst < src → Q .none { s with heap := h', toks := tk }) :
    wpAny (model prog w) (ktrTop dp un gd cn cs L a ccd cl outer) (call (.ref 198) [.ref M, .int num tn, .int goal tg, vl]) Q E s := by
  obtain ⟨pre, post, rfl, hg, b1, b2⟩ := U.split
  refine make_spec (dM := dM) (t1 := t1) (t2 := t2) (tm := tm) (nM := nM) (rest := pre ++ post) B F X (ledger_sub N fun q hq => mid_mem1 hq) T hk (fun q hq => (List.mem_append.mp hq).elim (b1 q) (b2 q)) (fun q hq => mid_ne (hm q hq) (hne q hq)) hd hu hS lo hn hl ok
    (fun _ h' tk inst d src so oS' s1 s2 s3 n1 F' N' k1 k2 k3 k4 k5 k6 => hret h' tk inst d src so oS' s1 s2 s3 n1 F' (ledger_sub N' fun q hq => ?_) k1 k2 k3 (fun q hq => k4 q (mid_mem2 hq)) k5 k6) fun x => absurd good x
  rw [hg] at hq
  simp only [List.mem_cons, List.mem_append] at hq ⊢
  rcases hq with h | h | h | h | h | h
  · exact .inr (.inl h)
  · exact .inr (.inr (.inl h))
  · exact .inr (.inr (.inr (.inl h)))
  · exact .inr (.inr (.inr (.inr (.inl h))))
  · exact .inl h
  · exact .inr (.inr (.inr (.inr (.inr h))))

theorem remove_okU {M dM S : Addr} {oS : Obj} {t1 t2 tm : Tok} {nM : Nat} {σ : List Ses} {num : Int} {tn : Tok} {g : Obj → List (Addr × Obj)}
    (B : Below A₀ base outer h₀) (F : Fr h₀ L s.heap m) (X : (pre.heap_1 w.params).In h₀) (N : News h₀ L s.heap news) (T : Top p loose mean mg mb h₀) (hk : cs.kind = .function) (U : UpdF S oS news g)
    (hm : ∀ q ∈ [(M, instObj 236 dM), (dM, mirD w t1 t2 tm S nM)], q ∈ news) (hM : M ≠ S) (hdM : dM ≠ S)
    (hd : dp + 240 < recursionLimit) (hu : un + 200 < cLine) (hS : oS.IsDictOf (intKind prog w) (kvM σ)) (lo : (S == sysModules) = false) (hl : σ.length ≤ 3) (good : (valueAt (kvO σ) num).isSome = true)
    (hret : ∀ h' tk oS' v', Fr h₀ L h' m → News h₀ L h' (g oS') → oS'.IsDictOf (intKind prog w) (without (kvM σ) num) → Q v' { s with heap := h', toks := tk }) :
    wpAny (model prog w) (ktrTop dp un gd cn cs L a ccd cl outer) (call (.ref 226) [.ref M, .int num tn]) Q E s := by
  obtain ⟨pre, post, rfl, hg, b1, b2⟩ := U.split
  rw [← keys_MO] at good
  obtain ⟨v, hv⟩ := Option.isSome_iff_exists.mp good
  refine remove_ok (dM := dM) (t1 := t1) (t2 := t2) (tm := tm) (nM := nM) (rest := pre ++ post) B F X (ledger_sub N fun q hq => mid_mem1 hq) T hk (fun q hq => (List.mem_append.mp hq).elim (b1 q) (b2 q)) (fun q hq => mid_ne (hm q hq) ?_) hd hu hS lo hv (by rw [kvM, List.length_map]; omega)
    (fun h' tk oS' v' F' N' k1 => hret h' tk oS' v' F' (ledger_sub N' fun q hq => ?_) k1)
  · simp only [List.mem_cons, List.not_mem_nil, or_false] at hq
    rcases hq with rfl | rfl
    · exact hM
    · exact hdM
  · rw [hg] at hq; exact mid_mem2 hq
end
end Mine
end

section
open PySem PySem.W PyProof.Rows PySem.Calls PyProof.Rows.LCg PyProof.Rows.LCt
set_option Elab.async false
set_option maxRecDepth 100000
set_option maxHeartbeats 4000000
namespace Mine
theorem lnD28_0 : True := by
  k_with_none
  w_top off
  k_with "pk" => first | exact pk1 | exact pk2 | exact pk3 | exact pk4 | (refine pkS ?_; k_extra "pk")
  k_with "ne" => (refine neN ?_; (try dsimp only); with_reducible first | assumption | exact .symm (by assumption) | exact pk2 (by assumption) | exact pk4 (by assumption) | (refine pkH (by assumption) ?_; k_extra "pk") | (refine pkL (by assumption) ?_; k_extra "pk") | fail)
  k_with "room" => first | exact rmA (by assumption) rfl | exact rmB (by assumption) rfl | exact rmC (by assumption) rfl | fail
  trivial
theorem len_sub : ∀ {l l2 : List Int}, l.Nodup → (∀ k ∈ l, k ∈ l2) → l.length ≤ l2.length
  | [], _, _, _ => Nat.zero_le _
  | a :: t, l2, hn, hs => by
    rw [List.nodup_cons] at hn
    have ha := hs a (.head _)
    have := len_sub (l2 := l2.erase a) hn.2 fun k hk => (List.mem_erase_of_ne (fun e => hn.1 (by rw [← e]; exact hk))).mpr (hs k (.tail _ hk))
    rw [List.length_erase_of_mem ha] at this
    have hp := List.length_pos_of_mem ha
    rw [List.length_cons]
    omega
theorem len_ports {l : List Int} (hn : l.Nodup) (h : ∀ k ∈ l, 1 ≤ k ∧ k ≤ 6) : l.length ≤ 6 := by
  refine len_sub (l2 := [1, 2, 3, 4, 5, 6]) hn fun k hk => ?_
  obtain ⟨h1, h2⟩ := h k hk
  simp only [List.mem_cons, List.not_mem_nil, or_false]
  omega
section
variable {prog : Program} {w : World}
theorem dict_len {o : Obj} {kvs : List (Int × Value)} (hd : o.IsDictOf (intKind prog w) kvs) (h : ∀ k ∈ kvs.map (·.1), 1 ≤ k ∧ k ≤ 6) : kvs.length ≤ 1000 := by
  obtain ⟨_, _, _, _, _, _, hn⟩ := hd
  have := len_ports hn h
  rw [List.length_map] at this
  omega
theorem ky_stored {kvs : List (Int × Value)} {k : Int} {v : Value} (h : ∀ x ∈ kvs.map (·.1), 1 ≤ x ∧ x ≤ 6) (h1 : 1 ≤ k) (h2 : k ≤ 6) : ∀ x ∈ (stored kvs k v).map (·.1), 1 ≤ x ∧ x ≤ 6 := by
  intro x hx
  unfold stored at hx
  split at hx
  · rw [List.map_map] at hx
    obtain ⟨q, hq, rfl⟩ := List.mem_map.mp hx
    have := h q.1 (List.mem_map.mpr ⟨q, hq, rfl⟩)
    simp only [Function.comp]
    split <;> exact this
  · rw [List.map_append] at hx
    rcases List.mem_append.mp hx with hx | hx
    · exact h x hx
    · simp only [List.map_cons, List.map_nil, List.mem_singleton] at hx
      subst hx; exact ⟨h1, h2⟩
theorem ky_without {kvs : List (Int × Value)} {k : Int} (h : ∀ x ∈ kvs.map (·.1), 1 ≤ x ∧ x ≤ 6) : ∀ x ∈ (without kvs k).map (·.1), 1 ≤ x ∧ x ≤ 6 := by
  intro x hx
  obtain ⟨q, hq, rfl⟩ := List.mem_map.mp hx
  exact h _ (List.mem_map.mpr ⟨q, (List.mem_filter.mp hq).1, rfl⟩)

/-- a session made new -/
noncomputable abbrev newSes (num goal : Int) (tg : Tok) (vl : Value) (inst d src lst src2 : Addr) (so so2 : Obj) (s1 s2 s3 : Tok) (n1 : Nat) : Ses :=
  { num := num, goal := goal, gt := tg, gt2 := tg, vl := vl, vl2 := vl, kv := [], kv2 := [], inst := inst, dict := d, src := src, lst := lst, src2 := src2, so := so, so2 := so2, t1 := s1, t2 := s2, t3 := s3, n1 := n1, n2 := 0 }
theorem newSes_ok {num goal : Int} {tg : Tok} {vl : Value} {inst d src lst src2 : Addr} {so so2 : Obj} {s1 s2 s3 : Tok} {n1 : Nat} (h1 : so.IsDictOf (intKind prog w) []) (h2 : so2.IsDictOf (intKind prog w) []) (hv : vl = .none ∨ ∃ k t, vl = .int k t) (l1 : (src == sysModules) = false) (l2 : (src2 == sysModules) = false) : Ses.Ok prog w (newSes num goal tg vl inst d src lst src2 so so2 s1 s2 s3 n1) :=
  ⟨h1, h2, rfl, fun p h => (by cases h), hv.imp (fun e => ⟨e, e⟩) (fun ⟨k, t, e⟩ => ⟨k, t, t, e, e⟩), l1, l2, Nat.zero_le _, Nat.zero_le _⟩
theorem make_kvM {σ : List Ses} {num goal : Int} (good : MakeOk σ num goal) {c : Ses} (hc : c.num = num) : stored (kvM σ) num (.ref c.inst) = kvM (σ ++ [c]) := by
  rw [stored_map_new Ses.num (fun c => Value.ref c.inst) good.1]; simp [kvM, hc]
theorem make_kvO {σ : List Ses} {num goal : Int} (good : MakeOk σ num goal) {c : Ses} (hc : c.num = num) : stored (kvO σ) num (.ref c.lst) = kvO (σ ++ [c]) := by
  rw [stored_map_new Ses.num (fun c => Value.ref c.lst) (keys_MO ▸ good.1)]; simp [kvO, hc]
theorem make_num {σ : List Ses} {num goal : Int} (good : MakeOk σ num goal) : num ∉ σ.map (·.num) := fun h => by
  have := good.1
  rw [valueAt_isSome, kvM, List.map_map] at this
  exact of_decide_eq_false this h
theorem fresh5 {i d s l s2 : Nat} (h1 : d < i) (h2 : i < s) (h3 : s < s2) (h4 : s2 < l) : ([i, d, s, l, s2] : List Nat).Nodup := by
  simp only [List.nodup_cons, List.mem_cons, List.not_mem_nil, or_false, not_or, not_false_eq_true, List.nodup_nil, and_true]
  omega
theorem above5 {i d s l s2 : Nat} (h1 : d < i) (h2 : i < s) (h3 : s < s2) (h4 : s2 < l) : ∀ a ∈ ([i, d, s, l, s2] : List Nat), d ≤ a :=
  List.forall_mem_cons.mpr ⟨Nat.le_of_lt h1, List.forall_mem_cons.mpr ⟨Nat.le_refl d, List.forall_mem_cons.mpr ⟨Nat.le_of_lt (Nat.lt_trans h1 h2), List.forall_mem_cons.mpr ⟨Nat.le_of_lt (Nat.lt_trans h1 (Nat.lt_trans h2 (Nat.lt_trans h3 h4))), List.forall_mem_cons.mpr ⟨Nat.le_of_lt (Nat.lt_trans h1 (Nat.lt_trans h2 h3)), List.forall_mem_nil _⟩⟩⟩⟩⟩

/-- what a deed on a session refuses -/
noncomputable def AddBad (σ : List Ses) (num port : Int) (way : Str) : Prop := (∀ c ∈ σ, c.num ≠ num) ∨ waysL.any (· == way) = false ∨ (σ.any fun c => c.goal = port) = true
noncomputable def TakeBad (σ : List Ses) (num port : Int) : Prop := ∀ c ∈ σ, c.num = num → (valueAt c.kv port).isSome = false
theorem not_own {σ : List Ses} {num : Int} (h : (valueAt (kvO σ) num).isSome = false) : ∀ c ∈ σ, c.num ≠ num := fun c hc e => by
  rw [valueAt_isSome, kvO, List.map_map] at h
  exact of_decide_eq_false h (List.mem_map.mpr ⟨c, hc, e⟩)
theorem is_own {σ : List Ses} {num : Int} (h : ¬ ∀ c ∈ σ, c.num ≠ num) : (valueAt (kvO σ) num).isSome = true := by
  cases e : (valueAt (kvO σ) num).isSome with
  | true => rfl
  | false => exact absurd (not_own e) h
theorem own_at {σ : List Ses} {num : Int} (h : (valueAt (kvO σ) num).isSome = true) : ∃ c, c ∈ σ ∧ c.num = num := by
  rw [valueAt_isSome, kvO, List.map_map] at h
  obtain ⟨c, hc, e⟩ := List.mem_map.mp (of_decide_eq_true h)
  exact ⟨c, hc, e⟩
theorem ab1 {σ : List Ses} {num port : Int} {way : Str} (h : (valueAt (kvO σ) num).isSome = false) : AddBad σ num port way := .inl (not_own h)
theorem ab2 {σ : List Ses} {num port : Int} {way : Str} (hv : waysL.any (· == way) = !(way == Str.ofString "up")) (h : (way == Str.ofString "up") = true) : AddBad σ num port way := .inr (.inl (by rw [hv, h]; rfl))
theorem ab3 {σ : List Ses} {num port : Int} {way : Str} (h : ((σ.map (·.goal)).any fun x => x == port) = true) : AddBad σ num port way := .inr (.inr (by rw [← any_goals]; exact h))
theorem ab4 {σ : List Ses} {num port : Int} {way : Str} (hv : waysL.any (· == way) = !(way == Str.ofString "up")) (h1 : (valueAt (kvO σ) num).isSome = true) (h2 : (way == Str.ofString "up") = false) (h3 : ((σ.map (·.goal)).any fun x => x == port) = false) : ¬ AddBad σ num port way := by
  rintro (h | h | h)
  · obtain ⟨c, hc, e⟩ := own_at h1; exact h c hc e
  · rw [hv, h2] at h; cases h
  · rw [← any_goals, h3] at h; cases h
theorem add_good {σ : List Ses} {num port : Int} {way : Str} (h : ¬ AddBad σ num port way) : (∃ c, c ∈ σ ∧ c.num = num) ∧ waysL.any (· == way) = true ∧ (σ.any fun c => c.goal = port) = false := by
  refine ⟨own_at (is_own fun x => h (.inl x)), ?_, ?_⟩
  · cases e : waysL.any (· == way) with
    | true => rfl
    | false => exact absurd (.inr (.inl e)) h
  · cases e : (σ.any fun c => c.goal = port) with
    | false => rfl
    | true => exact absurd (.inr (.inr e)) h
theorem one_of {σ : List Ses} (hn : (σ.map (·.num)).Nodup) {c d : Ses} (hc : c ∈ σ) (hd : d ∈ σ) (e : d.num = c.num) : d = c := by
  have h1 := find_nodup Ses.num σ hn c hc
  have h2 := find_nodup Ses.num σ hn d hd
  rw [e, h1] at h2
  exact (Option.some.inj h2).symm

noncomputable abbrev lstO (c : Ses) : Obj := listOf #[.int c.goal c.gt2, c.vl2, .ref c.src2] c.n2
/-- what is left of the sessions' part when one session's two dicts and its list stand in front -/
noncomputable def restS (w : World) (σ1 : List Ses) (c : Ses) (σ2 : List Ses) (oth : List (Addr × Obj)) : List (Addr × Obj) := (c.inst, instObj 161 c.dict) :: (c.dict, sesD w c) :: (ledS w σ1 ++ (ledS w σ2 ++ oth))
theorem open_perm {σ1 σ2 : List Ses} {c : Ses} {oth : List (Addr × Obj)} (kv kv2 : List (Int × Value)) (so so2 : Obj) :
    (ledS w (σ1 ++ c.upd kv kv2 so so2 :: σ2) ++ oth).Perm ((c.src, so) :: (c.lst, lstO c) :: (c.src2, so2) :: restS w σ1 c σ2 oth) := by
  rw [ledS_app, ledS_cons, List.append_assoc, List.append_assoc]
  refine (List.perm_append_comm_assoc _ _ _).trans ?_
  have : (Ses.led w (c.upd kv kv2 so so2)).Perm [(c.src, so), (c.lst, lstO c), (c.src2, so2), (c.inst, instObj 161 c.dict), (c.dict, sesD w c)] :=
    List.perm_append_comm (l₁ := [(c.inst, instObj 161 c.dict), (c.dict, sesD w c)]) (l₂ := [(c.src, so), (c.lst, lstO c), (c.src2, so2)])
  exact this.append_right _
theorem open_nd {σ1 σ2 : List Ses} {c : Ses} {oth : List (Addr × Obj)} (h : ((ledS w (σ1 ++ c :: σ2) ++ oth).map (·.1) : List Nat).Nodup) :
    (@Ne Nat c.src c.lst) ∧ (@Ne Nat c.src c.src2) ∧ (@Ne Nat c.lst c.src2) ∧ (∀ q ∈ restS w σ1 c σ2 oth, q.1 ≠ c.src) ∧ (∀ q ∈ restS w σ1 c σ2 oth, q.1 ≠ c.src2) := by
  have h' := ((open_perm (w := w) (σ1 := σ1) (σ2 := σ2) (c := c) (oth := oth) c.kv c.kv2 c.so c.so2).map (·.1)).nodup_iff.mp h
  simp only [List.map_cons, List.nodup_cons, List.mem_cons, not_or] at h'
  obtain ⟨⟨a1, a2, a3⟩, ⟨a4, a5⟩, a6, a7⟩ := h'
  exact ⟨a1, a2, a4, nd_off a3, nd_off a6⟩
end
theorem pre_sub {pre R R' : List (Addr × Obj)} (h : ∀ q ∈ R', q ∈ R) : ∀ q ∈ pre ++ R', q ∈ pre ++ R := fun q hq => (List.mem_append.mp hq).elim (List.mem_append_left _) fun z => List.mem_append_right _ (h q z)
theorem mid_swap {pre nc R : List (Addr × Obj)} : ∀ q ∈ pre ++ (nc ++ R), q ∈ nc ++ (pre ++ R) := fun q hq => (List.mem_append.mp hq).elim (fun z => List.mem_append_right _ (List.mem_append_left _ z)) fun z => (List.mem_append.mp z).elim (List.mem_append_left _) fun z => List.mem_append_right _ (List.mem_append_right _ z)
theorem cons_sub {x : Addr × Obj} {l l' : List (Addr × Obj)} (h : ∀ q ∈ l', q ∈ l) : ∀ q ∈ x :: l', q ∈ x :: l := fun q hq => by
  rcases List.mem_cons.mp hq with rfl | hq
  · exact .head _
  · exact .tail _ (h q hq)
theorem mem13 {q a1 a2 a3 a4 a5 a6 a7 a8 a9 a10 a11 a12 a13 : Addr × Obj} {R : List (Addr × Obj)} (h : q ∈ R) : q ∈ a1 :: a2 :: a3 :: a4 :: a5 :: a6 :: a7 :: a8 :: a9 :: a10 :: a11 :: a12 :: a13 :: R := .tail _ (.tail _ (.tail _ (.tail _ (.tail _ (.tail _ (.tail _ (.tail _ (.tail _ (.tail _ (.tail _ (.tail _ (.tail _ (h)))))))))))))
theorem open13 {h₀ : Heap} {L : Addr} {h : Heap} {a1 a2 a3 a4 a5 a6 a7 a8 a9 a10 a11 a12 a13 : Addr × Obj} {R R' : List (Addr × Obj)} (N : News h₀ L h (a1 :: a2 :: a3 :: a4 :: a5 :: a6 :: a7 :: a8 :: a9 :: a10 :: a11 :: a12 :: a13 :: R)) (hs : ∀ q ∈ R', q ∈ R) : News h₀ L h (a1 :: a2 :: a3 :: a4 :: a5 :: a6 :: a7 :: a8 :: a9 :: a10 :: a11 :: a12 :: a13 :: R') := ledger_sub N (pre_sub (pre := [a1, a2, a3, a4, a5, a6, a7, a8, a9, a10, a11, a12, a13]) hs)
theorem mem12 {q a1 a2 a3 a4 a5 a6 a7 a8 a9 a10 a11 a12 : Addr × Obj} {R : List (Addr × Obj)} (h : q ∈ R) : q ∈ a1 :: a2 :: a3 :: a4 :: a5 :: a6 :: a7 :: a8 :: a9 :: a10 :: a11 :: a12 :: R := .tail _ (.tail _ (.tail _ (.tail _ (.tail _ (.tail _ (.tail _ (.tail _ (.tail _ (.tail _ (.tail _ (.tail _ (h))))))))))))
theorem open12 {h₀ : Heap} {L : Addr} {h : Heap} {a1 a2 a3 a4 a5 a6 a7 a8 a9 a10 a11 a12 : Addr × Obj} {R R' : List (Addr × Obj)} (N : News h₀ L h (a1 :: a2 :: a3 :: a4 :: a5 :: a6 :: a7 :: a8 :: a9 :: a10 :: a11 :: a12 :: R)) (hs : ∀ q ∈ R', q ∈ R) : News h₀ L h (a1 :: a2 :: a3 :: a4 :: a5 :: a6 :: a7 :: a8 :: a9 :: a10 :: a11 :: a12 :: R') := ledger_sub N (pre_sub (pre := [a1, a2, a3, a4, a5, a6, a7, a8, a9, a10, a11, a12]) hs)
theorem mem14 {q a1 a2 a3 a4 a5 a6 a7 a8 a9 a10 a11 a12 a13 a14 : Addr × Obj} {R : List (Addr × Obj)} (h : q ∈ R) : q ∈ a1 :: a2 :: a3 :: a4 :: a5 :: a6 :: a7 :: a8 :: a9 :: a10 :: a11 :: a12 :: a13 :: a14 :: R := .tail _ (.tail _ (.tail _ (.tail _ (.tail _ (.tail _ (.tail _ (.tail _ (.tail _ (.tail _ (.tail _ (.tail _ (.tail _ (.tail _ (h))))))))))))))
theorem open14 {h₀ : Heap} {L : Addr} {h : Heap} {a1 a2 a3 a4 a5 a6 a7 a8 a9 a10 a11 a12 a13 a14 : Addr × Obj} {R R' : List (Addr × Obj)} (N : News h₀ L h (a1 :: a2 :: a3 :: a4 :: a5 :: a6 :: a7 :: a8 :: a9 :: a10 :: a11 :: a12 :: a13 :: a14 :: R)) (hs : ∀ q ∈ R', q ∈ R) : News h₀ L h (a1 :: a2 :: a3 :: a4 :: a5 :: a6 :: a7 :: a8 :: a9 :: a10 :: a11 :: a12 :: a13 :: a14 :: R') := ledger_sub N (pre_sub (pre := [a1, a2, a3, a4, a5, a6, a7, a8, a9, a10, a11, a12, a13, a14]) hs)
theorem mem15 {q a1 a2 a3 a4 a5 a6 a7 a8 a9 a10 a11 a12 a13 a14 a15 : Addr × Obj} {R : List (Addr × Obj)} (h : q ∈ R) : q ∈ a1 :: a2 :: a3 :: a4 :: a5 :: a6 :: a7 :: a8 :: a9 :: a10 :: a11 :: a12 :: a13 :: a14 :: a15 :: R := .tail _ (.tail _ (.tail _ (.tail _ (.tail _ (.tail _ (.tail _ (.tail _ (.tail _ (.tail _ (.tail _ (.tail _ (.tail _ (.tail _ (.tail _ (h)))))))))))))))
theorem open15 {h₀ : Heap} {L : Addr} {h : Heap} {a1 a2 a3 a4 a5 a6 a7 a8 a9 a10 a11 a12 a13 a14 a15 : Addr × Obj} {R R' : List (Addr × Obj)} (N : News h₀ L h (a1 :: a2 :: a3 :: a4 :: a5 :: a6 :: a7 :: a8 :: a9 :: a10 :: a11 :: a12 :: a13 :: a14 :: a15 :: R)) (hs : ∀ q ∈ R', q ∈ R) : News h₀ L h (a1 :: a2 :: a3 :: a4 :: a5 :: a6 :: a7 :: a8 :: a9 :: a10 :: a11 :: a12 :: a13 :: a14 :: a15 :: R') := ledger_sub N (pre_sub (pre := [a1, a2, a3, a4, a5, a6, a7, a8, a9, a10, a11, a12, a13, a14, a15]) hs)
theorem drop1 {h₀ : Heap} {L : Addr} {h : Heap} {x1 : Addr × Obj} {news : List (Addr × Obj)} (N : News h₀ L h (x1 :: news)) : News h₀ L h news := ledger_sub N fun _ h => .tail _ h
section
variable {prog : Program} {w : World} {p : Program} {loose : List Str} {mean : ExcName → Option Value} {mg mb : Str → Option Value} {dp un : Nat} {gd : Option (List Code)} {cn : Str} {cs : Scope} {a : Addr} {ccd : Value} {cl : List (Str × Addr)} {outer : List Env} {A₀ : Around} {base h₀ : Heap} {L : Addr} {m : Str → Option Value} {s : Shared} {Q E : Value → Shared → Prop} {news : List (Addr × Obj)}
theorem add_okU {M dM S : Addr} {oS : Obj} {t1 t2 tm : Tok} {nM : Nat} {σ : List Ses} {c : Ses} {num : Int} {tn : Tok} {port : Int} {tp : Tok} {way : Str} {tw : Tok} {g : Obj → List (Addr × Obj)}
    (B : Below A₀ base outer h₀) (F : Fr h₀ L s.heap m) (X : (pre.heap_1 w.params).In h₀) (N : News h₀ L s.heap news) (T : Top p loose mean mg mb h₀) (hk : cs.kind = .function) (U : UpdF c.src c.so news g)
    (hnum : c.num = num) (hoff5 : ∀ q ∈ [(M, instObj 236 dM), (dM, mirD w t1 t2 tm S nM), (S, oS), (c.inst, instObj 161 c.dict), (c.dict, sesD w c)], q.1 ≠ c.src)
    (hm : ∀ q ∈ (M, instObj 236 dM) :: (dM, mirD w t1 t2 tm S nM) :: (S, oS) :: ledS w σ, q ∈ news)
    (hd : dp + 240 < recursionLimit) (hu : un + 200 < cLine) (hS : oS.IsDictOf (intKind prog w) (kvM σ)) (lo : (S == sysModules) = false) (hn : (σ.map (·.num)).Nodup) (hl : σ.length ≤ 3) (ok : ∀ c ∈ σ, c.Ok prog w) (hc : c ∈ σ)
    (good : waysL.any (· == way) = true ∧ (σ.any fun c => c.goal = port) = false)
    (hret : ∀ h' tk so' v', Fr h₀ L h' m → News h₀ L h' (g so') → so'.IsDictOf (intKind prog w) (stored c.kv port (.str way tw)) → Q v' { s with heap := h', toks := tk }) :
    wpAny (model prog w) (ktrTop dp un gd cn cs L a ccd cl outer) (call (.ref 212) [.ref M, .int num tn, .int port tp, .str way tw]) Q E s := by
  subst hnum
  obtain ⟨pre, post, rfl, hg, b1, b2⟩ := U.split
  refine add_ok (dM := dM) (t1 := t1) (t2 := t2) (tm := tm) (nM := nM) (S := S) (oS := oS) (σ := σ) (rest := pre ++ post) B F X (ledger_sub N fun q hq => mid_mem1 hq) T hk (fun q hq => (List.mem_append.mp hq).elim (b1 q) (b2 q)) hoff5 (fun q hq => mid_mem2 (hm q hq)) hd hu hS lo hn hl ok hc good
    (fun h' tk so' v' F' N' k1 => hret h' tk so' v' F' (ledger_sub N' fun q hq => ?_) k1)
  rw [hg] at hq; exact mid_mem2 hq
theorem take_okU {M dM S : Addr} {oS : Obj} {t1 t2 tm : Tok} {nM : Nat} {σ : List Ses} {c : Ses} {num : Int} {tn : Tok} {port : Int} {tp : Tok} {g : Obj → List (Addr × Obj)}
    (B : Below A₀ base outer h₀) (F : Fr h₀ L s.heap m) (X : (pre.heap_1 w.params).In h₀) (N : News h₀ L s.heap news) (T : Top p loose mean mg mb h₀) (hk : cs.kind = .function) (U : UpdF c.src c.so news g)
    (hnum : c.num = num) (hoff5 : ∀ q ∈ [(M, instObj 236 dM), (dM, mirD w t1 t2 tm S nM), (S, oS), (c.inst, instObj 161 c.dict), (c.dict, sesD w c)], q.1 ≠ c.src)
    (hm : ∀ q ∈ (M, instObj 236 dM) :: (dM, mirD w t1 t2 tm S nM) :: (S, oS) :: ledS w σ, q ∈ news)
    (hd : dp + 240 < recursionLimit) (hu : un + 200 < cLine) (hS : oS.IsDictOf (intKind prog w) (kvM σ)) (lo : (S == sysModules) = false) (hn : (σ.map (·.num)).Nodup) (hl : σ.length ≤ 3) (ok : ∀ c ∈ σ, c.Ok prog w) (hc : c ∈ σ)
    (good : (valueAt c.kv port).isSome = true)
    (hret : ∀ h' tk so' v', Fr h₀ L h' m → News h₀ L h' (g so') → so'.IsDictOf (intKind prog w) (without c.kv port) → Q v' { s with heap := h', toks := tk }) :
    wpAny (model prog w) (ktrTop dp un gd cn cs L a ccd cl outer) (call (.ref 219) [.ref M, .int num tn, .int port tp]) Q E s := by
  subst hnum
  obtain ⟨vv, hvv⟩ := Option.isSome_iff_exists.mp good
  obtain ⟨pre, post, rfl, hg, b1, b2⟩ := U.split
  refine take_ok (dM := dM) (t1 := t1) (t2 := t2) (tm := tm) (nM := nM) (S := S) (oS := oS) (σ := σ) (rest := pre ++ post) B F X (ledger_sub N fun q hq => mid_mem1 hq) T hk (fun q hq => (List.mem_append.mp hq).elim (b1 q) (b2 q)) hoff5 (fun q hq => mid_mem2 (hm q hq)) hd hu hS lo hn hl ok hc hvv
    (fun h' tk so' v' F' N' k1 => hret h' tk so' v' F' (ledger_sub N' fun q hq => ?_) k1)
  rw [hg] at hq; exact mid_mem2 hq
end
section
variable {prog : Program} {w : World}
theorem take_good {σ : List Ses} {num port : Int} (h : ¬ TakeBad σ num port) : ∃ c, c ∈ σ ∧ c.num = num ∧ (valueAt c.kv port).isSome = true := by
  apply Classical.byContradiction
  intro hx
  refine h fun c hc e => ?_
  cases ev : (valueAt c.kv port).isSome with
  | false => rfl
  | true => exact absurd ⟨c, hc, e, ev⟩ hx
theorem tb1 {σ : List Ses} {num port : Int} (h : (valueAt (kvO σ) num).isSome = false) : TakeBad σ num port := fun c hc e => absurd e (not_own h c hc)
theorem tb2 {σ : List Ses} {num port : Int} {c : Ses} (hn : (σ.map (·.num)).Nodup) (hc : c ∈ σ) (e : c.num = num) (hok : c.Ok prog w) (h : (valueAt c.kv2 port).isSome = false) : TakeBad σ num port := fun d hd e2 => by
  rw [one_of hn hc hd (e2.trans e.symm), same_isSome hok.same]; exact h
theorem tb3 {σ : List Ses} {num port : Int} {c : Ses} (hc : c ∈ σ) (e : c.num = num) (hok : c.Ok prog w) (h : (valueAt c.kv2 port).isSome = true) : ¬ TakeBad σ num port := fun x => by
  have := x c hc e
  rw [same_isSome hok.same, h] at this; cases this
theorem upd_add {c : Ses} {port : Int} {v v2 : Value} {so so2 : Obj} (hok : c.Ok prog w) (hky : ∀ k ∈ c.kv.map (·.1), 1 ≤ k ∧ k ≤ 6) (h1 : 1 ≤ port) (h2 : port ≤ 6) (hv : bare v = bare v2) (ht : ∃ x t, v = .str x t) (d1 : so.IsDictOf (intKind prog w) (stored c.kv port v)) (d2 : so2.IsDictOf (intKind prog w) (stored c.kv2 port v2)) :
    Ses.Ok prog w (c.upd (stored c.kv port v) (stored c.kv2 port v2) so so2) ∧ ∀ k ∈ (stored c.kv port v).map (·.1), 1 ≤ k ∧ k ≤ 6 := by
  have k1 := ky_stored (v := v) hky h1 h2
  have k2 : ∀ k ∈ (stored c.kv2 port v2).map (·.1), 1 ≤ k ∧ k ≤ 6 := ky_stored (v := v2) (by rw [← same_keys hok.same]; exact hky) h1 h2
  exact ⟨⟨d1, d2, same_stored hv hok.same, txt_stored hok.txt ht, hok.vlan, hok.lo, hok.lo2, dict_len d1 k1, dict_len d2 k2⟩, k1⟩
theorem upd_take {c : Ses} {port : Int} {so so2 : Obj} (hok : c.Ok prog w) (hky : ∀ k ∈ c.kv.map (·.1), 1 ≤ k ∧ k ≤ 6) (d1 : so.IsDictOf (intKind prog w) (without c.kv port)) (d2 : so2.IsDictOf (intKind prog w) (without c.kv2 port)) :
    Ses.Ok prog w (c.upd (without c.kv port) (without c.kv2 port) so so2) ∧ ∀ k ∈ (without c.kv port).map (·.1), 1 ≤ k ∧ k ≤ 6 := by
  have k1 := ky_without (k := port) hky
  have k2 : ∀ k ∈ (without c.kv2 port).map (·.1), 1 ≤ k ∧ k ≤ 6 := ky_without (by rw [← same_keys hok.same]; exact hky)
  exact ⟨⟨d1, d2, same_without hok.same, txt_without hok.txt, hok.vlan, hok.lo, hok.lo2, dict_len d1 k1, dict_len d2 k2⟩, k1⟩
end
theorem open12b {a1 a2 a3 a4 a5 a6 a7 a8 a9 a10 a11 a12 : Addr × Obj} {R R' : List (Addr × Obj)} (h : ∀ q ∈ R, q ∈ R') : ∀ q ∈ a1 :: a2 :: a3 :: a4 :: a5 :: a6 :: a7 :: a8 :: a9 :: a10 :: a11 :: a12 :: R, q ∈ a1 :: a2 :: a3 :: a4 :: a5 :: a6 :: a7 :: a8 :: a9 :: a10 :: a11 :: a12 :: R' := pre_sub (pre := [a1, a2, a3, a4, a5, a6, a7, a8, a9, a10, a11, a12]) h
theorem mem3 {q a1 a2 a3 : Addr × Obj} {R : List (Addr × Obj)} (h : q ∈ R) : q ∈ a1 :: a2 :: a3 :: R := .tail _ (.tail _ (.tail _ h))
theorem mem11 {q a1 a2 a3 a4 a5 a6 a7 a8 a9 a10 a11 : Addr × Obj} {R : List (Addr × Obj)} (h : q ∈ R) : q ∈ a1 :: a2 :: a3 :: a4 :: a5 :: a6 :: a7 :: a8 :: a9 :: a10 :: a11 :: R := .tail _ (.tail _ (.tail _ (.tail _ (.tail _ (.tail _ (.tail _ (.tail _ (.tail _ (.tail _ (.tail _ (h)))))))))))
theorem mem_three {x y z : Addr × Obj} {R l : List (Addr × Obj)} (h1 : x ∈ l) (h2 : y ∈ l) (h3 : z ∈ l) (h4 : ∀ q ∈ R, q ∈ l) : ∀ q ∈ x :: y :: z :: R, q ∈ l := fun q hq => by
  rcases List.mem_cons.mp hq with rfl | hq
  · exact h1
  rcases List.mem_cons.mp hq with rfl | hq
  · exact h2
  rcases List.mem_cons.mp hq with rfl | hq
  · exact h3
  exact h4 q hq
end Mine
end

section
open PySem PySem.W PyProof.Rows PySem.Calls PyProof.Rows.LCg PyProof.Rows.LCt
set_option Elab.async false
set_option maxRecDepth 100000
set_option maxHeartbeats 4000000
namespace Mine
theorem lnD29_0 : True := by
  k_with_none
  w_top off
  k_with "pk" => first | exact pk1 | exact pk2 | exact pk3 | exact pk4 | (refine pkS ?_; k_extra "pk")
  k_with "ne" => (refine neN ?_; (try dsimp only); with_reducible first | assumption | exact .symm (by assumption) | exact pk2 (by assumption) | exact pk4 (by assumption) | (refine pkH (by assumption) ?_; k_extra "pk") | (refine pkL (by assumption) ?_; k_extra "pk") | fail)
  k_with "room" => first | exact rmA (by assumption) rfl | exact rmB (by assumption) rfl | exact rmC (by assumption) rfl | fail
  trivial
section
variable {prog : Program} {w : World} {A : Around} {E : Value → Shared → Prop} {s : Shared} {h₀ : Heap} {L : Addr} {m : Str → Option Value} {news : List (Addr × Obj)}
theorem append_U {D : Addr} {v : Value} {acc : List Value} {n : Nat} {g : Obj → List (Addr × Obj)} {Q : Value → Shared → Prop} (F : Fr h₀ L s.heap m) (N : News h₀ L s.heap news) (U : UpdF D (listOf (List.toArray acc) n) news g) (hz : acc.length ≤ 1000)
    (h : ∀ h', Fr h₀ L h' m → News h₀ L h' (g (listOf (List.toArray (acc ++ [v])) (n + 1))) → Q .none { s with heap := h' }) :
    wpAny (model prog w) A (call (.builtin "list.append") [.ref D, v]) Q E s := by
  obtain ⟨pre, post, rfl, hg, b1, b2⟩ := U.split
  have hD := N (D, _) (List.mem_append_right _ (.head _))
  refine append_at (hsz := by rw [List.size_toArray, PySem.sizeLine_eq]; omega) hD.1 fun h' hs he => ?_
  refine h h' (F.change hs hD.2.1 hD.2.2) fun p hp => ?_
  rw [hg] at hp
  rcases List.mem_append.mp hp with hp | hp
  · exact ⟨hs.extBut _ _ (b1 p hp) (N _ (List.mem_append_left _ hp)).1, (N _ (List.mem_append_left _ hp)).2⟩
  · rcases List.mem_cons.mp hp with rfl | hp
    · refine ⟨he.trans (congrArg some ?_), hD.2⟩
      show ({ cls := .type "list", data := .seq (acc.toArray.push v) (n + 1) } : Obj) = { cls := .type "list", data := .seq (acc ++ [v]).toArray (n + 1) }
      rw [List.push_toArray]
    · exact ⟨hs.extBut _ _ (b2 p hp) (N _ (List.mem_append_right _ (.tail _ hp))).1, (N _ (List.mem_append_right _ (.tail _ hp))).2⟩

theorem join_lists {a b : Addr} {xs ys : List Value} {n k : Nat} {Q : Value → Shared → Prop} (F : Fr h₀ L s.heap m) (N : News h₀ L s.heap news) (ha : (a, listOf (List.toArray xs) n) ∈ news) (hb : (b, listOf (List.toArray ys) k) ∈ news) (hz : xs.length + ys.length ≤ 1000)
    (h : ∀ D h', Fr h₀ L h' m → News h₀ L h' ((D, ({ cls := .type "list", data := .seq (xs ++ ys).toArray } : Obj)) :: news) → (∀ q ∈ news, q.1 < D) → Q (.ref D) { s with heap := h' }) :
    wpAny (model prog w) A (binaryOp .Add (.ref a) (.ref b)) Q E s :=
  add_lists (vs := xs) (ws := ys) (hsz := by rw [PySem.sizeLine_eq]; omega) F N ⟨_, (N _ ha).1, rfl, _, rfl⟩ ⟨_, (N _ hb).1, rfl, _, rfl⟩ fun h' F' N' => h _ h' F' N' fun q hq => Heap.lt_size (N q hq).1

theorem vw_five {nw : List (Addr × Obj)} {P T : Addr} {f : Frm} {n : Nat} {ds : List Dat} (h : (P, listOf #[.int f.v1 f.k1, .int f.v2 f.k2, .ref T, .int f.v4 f.k4, .bytes f.v5 f.k5] n) ∈ nw) (hT : Vw nw 2 (.ref T) (.list ds)) : Vw nw 3 (.ref P) (.list [.int f.v1, .int f.v2, .list ds, .int f.v4, .leaf (.bytes f.v5 f.k5)]) := by
  refine .list h rfl rfl rfl ?_
  intro j v x hv hx
  match j with
  | 0 => cases hv; cases hx; exact (Vw.int _ _).le (by omega)
  | 1 => cases hv; cases hx; exact (Vw.int _ _).le (by omega)
  | 2 => cases hv; cases hx; exact hT
  | 3 => cases hv; cases hx; exact (Vw.int _ _).le (by omega)
  | 4 => cases hv; cases hx; exact (Vw.leaf _ (fun a e => by cases e)).le (by omega)
  | n + 5 => simp at hx
theorem vw_pair {nw : List (Addr × Obj)} {T C : Addr} {g : Int} {t : Tok} {n : Nat} {d : Dat} (h : (T, ({ cls := .type "tuple", data := .seq #[.int g t, .ref C] n } : Obj)) ∈ nw) (hC : Vw nw 3 (.ref C) d) : Vw nw 4 (.ref T) (.tuple [.int g, d]) := by
  refine .tuple h rfl rfl rfl ?_
  intro j v x hv hx
  match j with
  | 0 => cases hv; cases hx; exact (Vw.int _ _).le (by omega)
  | 1 => cases hv; cases hx; exact hC
  | n + 2 => simp at hx
theorem vw_cons {nw : List (Addr × Obj)} {T U : Addr} {ys : List Value} {n k : Nat} {gs : List Tg} {v : Int} {u1 u2 u4 : Tok} (h : (T, ({ cls := .type "list", data := .seq (List.toArray (Value.ref U :: ys)) n } : Obj)) ∈ nw) (hU : (U, ({ cls := .type "tuple", data := .seq #[.int 33024 u1, .int 0 u2, .bool false, .int v u4] k } : Obj)) ∈ nw) (r : RowsIn nw ys gs) :
    Vw nw 2 (.ref T) (.list (.tuple [.int 33024, .int 0, .bool false, .int v] :: gs.map tagDat)) := by
  refine .list h rfl rfl (by simp [r.1]) ?_
  intro j x d hv hx
  match j with
  | 0 =>
    cases hv; cases hx
    refine .tuple hU rfl rfl rfl ?_
    intro j v x hv hx
    match j with
    | 0 => cases hv; cases hx; exact Vw.int _ _
    | 1 => cases hv; cases hx; exact Vw.int _ _
    | 2 => cases hv; cases hx; exact Vw.bool _
    | 3 => cases hv; cases hx; exact Vw.int _ _
    | n + 4 => simp at hx
  | j + 1 =>
    have hv' : ys[j]? = some x := by simpa using hv
    have hx' : (gs.map tagDat)[j]? = some d := by simpa using hx
    rw [List.getElem?_map] at hx'
    cases hg : gs[j]? with
    | none => rw [hg] at hx'; cases hx'
    | some g =>
      rw [hg] at hx'
      cases hx'
      exact r.2 j x g hv' hg
theorem due_none {nw : List (Addr × Obj)} {c : Ses} {f : Frm} {T C P : Addr} {t : Tok} {n k j : Nat} {ys : List Value} (hv : c.vl = .none) (h : (T, ({ cls := .type "tuple", data := .seq #[.int c.goal t, .ref C] n } : Obj)) ∈ nw) (hC : (C, listOf #[.int f.v1 f.k1, .int f.v2 f.k2, .ref P, .int f.v4 f.k4, .bytes f.v5 f.k5] k) ∈ nw) (hP : (P, listOf (List.toArray ys) j) ∈ nw) (r : RowsIn nw ys f.tags) : Vw nw 4 (.ref T) (dueDat c f) := by
  have := vw_pair h (vw_five hC (vw_rows hP r))
  unfold dueDat partsDat tagsDat
  rw [hv]; exact this
theorem due_some {nw : List (Addr × Obj)} {c : Ses} {f : Frm} {T C P U : Addr} {t u1 u2 u4 vt : Tok} {v : Int} {n k j i : Nat} {ys : List Value} (hv : c.vl = .int v vt) (h : (T, ({ cls := .type "tuple", data := .seq #[.int c.goal t, .ref C] n } : Obj)) ∈ nw) (hC : (C, listOf #[.int f.v1 f.k1, .int f.v2 f.k2, .ref P, .int f.v4 f.k4, .bytes f.v5 f.k5] k) ∈ nw) (hP : (P, ({ cls := .type "list", data := .seq (List.toArray (Value.ref U :: ys)) j } : Obj)) ∈ nw) (hU : (U, ({ cls := .type "tuple", data := .seq #[.int 33024 u1, .int 0 u2, .bool false, .int v u4] i } : Obj)) ∈ nw) (r : RowsIn nw ys f.tags) : Vw nw 4 (.ref T) (dueDat c f) := by
  have := vw_pair h (vw_five hC (vw_cons hP hU r))
  unfold dueDat partsDat tagsDat
  rw [hv]; exact this

noncomputable def takes2 (c : Ses) (port : Int) (way : Str) : Bool := match valueAt c.kv2 port with
  | some (.str x _) => [way, Str.ofString "both"].any (· == x)
  | _ => false
theorem takes_same {c : Ses} (ok : c.Ok prog w) (port : Int) (way : Str) : takesB c port way = takes2 c port way := by
  unfold takesB takes2
  have h := same_find (k := port) ok.same
  cases h1 : valueAt c.kv port with
  | none =>
    rw [h1] at h
    cases h2 : valueAt c.kv2 port with
    | none => rfl
    | some v2 => rw [h2] at h; cases h
  | some v1 =>
    have ht : ∃ x t, v1 = .str x t := by
      unfold valueAt at h1
      cases hfi : c.kv.find? fun p => p.1 = port with
      | none => rw [hfi] at h1; cases h1
      | some pr =>
        rw [hfi] at h1
        cases h1
        exact ok.txt pr (List.mem_of_find?_eq_some hfi)
    obtain ⟨x, t, rfl⟩ := ht
    rw [h1] at h
    cases h2 : valueAt c.kv2 port with
    | none => rw [h2] at h; cases h
    | some v2 =>
      rw [h2] at h
      have h := Option.some.inj h
      simp only [bare] at h
      cases v2 <;> simp only [bare] at h <;> first | (cases h; rfl) | cases h
theorem kv2_str {c : Ses} (ok : c.Ok prog w) {port : Int} {v : Value} (h2 : valueAt c.kv2 port = some v) : ∃ x t, v = .str x t := by
  have h := same_find (k := port) ok.same
  cases h1 : valueAt c.kv port with
  | none => rw [h1, h2] at h; cases h
  | some v1 =>
    have ht : ∃ x t, v1 = .str x t := by
      unfold valueAt at h1
      cases hfi : c.kv.find? fun p => p.1 = port with
      | none => rw [hfi] at h1; cases h1
      | some pr =>
        rw [hfi] at h1
        cases h1
        exact ok.txt pr (List.mem_of_find?_eq_some hfi)
    obtain ⟨x, t, rfl⟩ := ht
    rw [h1, h2] at h
    have h := Option.some.inj h
    simp only [bare] at h
    cases v <;> simp only [bare] at h <;> first | exact ⟨_, _, rfl⟩ | cases h
theorem hit_at {σ : List Ses} {port : Int} {way : Str} (hn : (σ.map (·.num)).Nodup) {c : Ses} (hc : c ∈ σ) : hitOf σ port way c.num = if takesB c port way = true then some c else none := by
  unfold hitOf
  rw [find_nodup Ses.num σ hn c hc]
  by_cases h : takesB c port way = true
  · rw [if_pos h]; simp [Option.filter, h]
  · rw [if_neg h]; simp [Option.filter, h]
theorem hit_step {σ : List Ses} {port : Int} {way : Str} (hn : (σ.map (·.num)).Nodup) {c : Ses} (hc : c ∈ σ) (pre : List Int) : (pre ++ [c.num]).filterMap (hitOf σ port way) = pre.filterMap (hitOf σ port way) ++ (if takesB c port way = true then [c] else []) := by
  rw [List.filterMap_append]
  congr 1
  simp only [List.filterMap_cons, List.filterMap_nil, hit_at hn hc]
  by_cases h : takesB c port way = true <;> simp [h]
theorem sorted_one : ∀ {a b : List Int}, a.Perm b → a.Pairwise (· ≤ ·) → b.Pairwise (· ≤ ·) → a = b
  | [], b, h, _, _ => (List.nil_perm.mp h).symm
  | x :: a, [], h, _, _ => absurd h.symm (List.not_perm_nil_cons x a |> fun z => z)
  | x :: a, y :: b, h, h1, h2 => by
    rw [List.pairwise_cons] at h1 h2
    have hx : x ∈ y :: b := h.mem_iff.mp (.head _)
    have hy : y ∈ x :: a := h.mem_iff.mpr (.head _)
    have e : x = y := by
      rcases List.mem_cons.mp hx with e | hx
      · exact e
      rcases List.mem_cons.mp hy with e | hy
      · exact e.symm
      exact Int.le_antisymm (h1.1 y hy) (h2.1 x hx)
    subst e
    rw [sorted_one h.cons_inv h1.2 h2.2]
structure DuSt where
  acc : List Value
  n : Nat
  cs : List Ses
end
theorem hit_mem {q d b : Addr × Obj} {REST add tl own R1 : List (Addr × Obj)} (hR : (b :: REST) ++ (tl ++ own) = R1) (hq : q ∈ [d] ++ ((b :: REST) ++ (add ++ tl))) : q = d ∨ q ∈ add ∨ q ∈ R1 := by
  subst hR
  simp only [List.cons_append, List.nil_append, List.mem_cons, List.mem_append] at hq ⊢
  rcases hq with h | h | h | h | h <;> simp [h]
theorem own_mem {q b : Addr × Obj} {REST tl own R1 : List (Addr × Obj)} (hR : (b :: REST) ++ (tl ++ own) = R1) (hq : q ∈ own) : q ∈ R1 := by
  subst hR; simp [hq]
theorem adr_ne {X D : Addr} {b : Addr × Obj} {REST tl own R1 : List (Addr × Obj)} (hR : (b :: REST) ++ (tl ++ own) = R1) (hD : @LT.lt Nat _ D X) (hall : AllLt X R1) : ∀ x ∈ D :: b.1 :: REST.map (·.1), x ≠ X := by
  subst hR
  intro x hx
  rcases List.mem_cons.mp hx with rfl | hx
  · exact Nat.ne_of_lt hD
  rcases List.mem_cons.mp hx with rfl | hx
  · exact Nat.ne_of_lt (allLt_mem hall b (.head _))
  obtain ⟨q, hq, rfl⟩ := List.mem_map.mp hx
  exact Nat.ne_of_lt (allLt_mem hall q (List.mem_append_left _ (.tail _ hq)))
theorem own_ne {X : Addr} {b : Addr × Obj} {REST tl own R1 : List (Addr × Obj)} (hR : (b :: REST) ++ (tl ++ own) = R1) (hall : AllLt X R1) : ∀ q ∈ own, q.1 ≠ X := fun q hq => Nat.ne_of_lt (allLt_mem hall q (own_mem hR hq))
theorem rows_mono {nw nw' : List (Addr × Obj)} {ys : List Value} {gs : List Tg} (r : RowsIn nw ys gs) (hs : ∀ q ∈ nw, q ∈ nw') : RowsIn nw' ys gs := ⟨r.1, fun j v g h1 h2 => (r.2 j v g h1 h2).mono hs⟩
theorem st_mem3 {w : World} {M dM S O src : Addr} {oS oO : Obj} {t1 t2 tm tx ty : Tok} {nM nn : Nat} {x y : Int} {ps : Array Value} {σ : List Ses} {oth l : List (Addr × Obj)} (h1 : (M, instObj 236 dM) ∈ l) (h2 : (dM, mirD w t1 t2 tm S nM) ∈ l) (h3 : (S, oS) ∈ l) (h4 : (O, oO) ∈ l) (h5 : (src, listOf #[.int x tx, .int y ty] nn) ∈ l) (h6 : (285, tabObj ps) ∈ l) (h7 : ∀ q ∈ ledS w σ ++ oth, q ∈ l) : ∀ q ∈ stLed w M dM S O src t1 t2 tm nM oS oO x y tx ty nn ps σ oth, q ∈ l :=
  mem_three h1 h2 h3 (mem_three h4 h5 h6 h7)
section
variable {prog : Program} {w : World} {A : Around} {E : Value → Shared → Prop} {s : Shared} {h₀ : Heap} {L : Addr} {news : List (Addr × Obj)}
theorem vw_eqop {k k' : Nat} {a b : Addr} {xs : List Dat} {Q : Value → Shared → Prop} (N : News h₀ L s.heap news) (h : Vw news k (.ref a) (.list xs)) (h' : Vw news k' (.ref b) (.list xs)) (hu : A.units + k + 2 < cLine) (hQ : Q (.bool true) s) :
    wpAny (model prog w) A (compareOp .Eq (.ref a) (.ref b)) Q E s := by
  obtain ⟨o, vs, n, j, hj, hm, hc, hd, hsz, hv⟩ := vw_list h
  obtain ⟨o', vs', n', j', hj', hm', hc', hd', hsz', hv'⟩ := vw_list h'
  have hl : s.heap.IsList a vs := ⟨o, (N _ hm).1, hc, n, hd⟩
  have hl' : s.heap.IsList b vs' := ⟨o', (N _ hm').1, hc', n', hd'⟩
  have := SeqAt.RcAt.lists (A := A) (s := s) (e := fun _ => true) hl hl' (by rw [hsz, hsz']) (by omega) (fun i h1 h2 => vw_eq N j (hv i _ _ (Array.getElem?_eq_getElem h1) (List.getElem?_eq_getElem (by omega))) (hv' i _ _ (Array.getElem?_eq_getElem h2) (List.getElem?_eq_getElem (by omega))) (by show A.units + 1 + j + 1 < cLine; omega))
  have e1 : ∀ n, (List.range n).all (fun _ => true) = true := fun n => List.all_eq_true.mpr fun _ _ => rfl
  rw [e1] at this
  exact cmp_ofEq (this prog w E Q hQ)
theorem vw_bools {a : Addr} {x y : Bool} {n : Nat} (h : (a, listOf #[.bool x, .bool y] n) ∈ news) : Vw news 1 (.ref a) (.list [.bool x, .bool y]) := by
  refine .list h rfl rfl rfl ?_
  intro j v d hv hx
  match j with
  | 0 => cases hv; cases hx; exact .bool _
  | 1 => cases hv; cases hx; exact .bool _
  | n + 2 => simp at hx
theorem eq_bools {a b : Addr} {x y x' y' : Bool} {n n' : Nat} {Q : Value → Shared → Prop} (N : News h₀ L s.heap news) (ha : (a, listOf #[.bool x, .bool y] n) ∈ news) (hb : (b, listOf #[.bool x', .bool y'] n') ∈ news) (ex : x = x') (ey : y = y') (hu : A.units + 3 < cLine) (hQ : Q (.bool true) s) :
    wpAny (model prog w) A (compareOp .Eq (.ref a) (.ref b)) Q E s := by
  subst ex ey
  exact vw_eqop N (vw_bools ha) (vw_bools hb) (by omega) hQ
end
theorem lst_is9 {D : Addr} {ys : List Value} {h₀ : Heap} {L : Addr} {h : Heap} {news : List (Addr × Obj)} (N : News h₀ L h news) (hm : (D, LCg.lst ys) ∈ news) : h.IsList D ys.toArray := ⟨_, (N _ hm).1, rfl, _, rfl⟩
theorem led_sub9 {w : World} {σ : List Ses} {l : List (Addr × Obj)} {q : Addr × Obj} (h : ∀ q ∈ ledS w σ, q ∈ l) (hq : q ∈ ledS w σ) : q ∈ l := h q hq
theorem led_mem9 {w : World} {O : Addr} {oO : Obj} {σ : List Ses} {l : List (Addr × Obj)} (hO : (O, oO) ∈ l) (h : ∀ q ∈ ledS w σ, q ∈ l) : ∀ q ∈ (O, oO) :: ledS w σ, q ∈ l := fun q hq => by
  rcases List.mem_cons.mp hq with rfl | hq
  · exact hO
  · exact h q hq
theorem sub_own {x1 x2 x3 i c d : Addr × Obj} {add r : List (Addr × Obj)} : ∀ q ∈ i :: c :: d :: ((x1 :: x2 :: x3 :: add) ++ r), q ∈ x1 :: x2 :: x3 :: (add ++ (i :: c :: d :: r)) := fun q hq => by
  have := mid_swap (pre := [i, c, d]) (nc := x1 :: x2 :: x3 :: add) (R := r) q hq
  exact this
theorem off_own {x1 x2 x3 i c d : Addr × Obj} {add r : List (Addr × Obj)} (h1 : ∀ p ∈ i :: c :: d :: r, p.1 ≠ x1.1) (h2 : ∀ q ∈ x2 :: x3 :: add, ∀ p ∈ i :: c :: d :: r, p.1 ≠ q.1) (h3 : LCg.Off3 i.1 c.1 d.1 r) : LCg.Off3 i.1 c.1 d.1 ((x1 :: x2 :: x3 :: add) ++ r) := by
  refine Off3.of fun q hq => ?_
  rcases List.mem_append.mp hq with hq | hq
  · rcases List.mem_cons.mp hq with rfl | hq
    · exact ⟨fun e => h1 _ (.head _) e.symm, fun e => h1 _ (.tail _ (.head _)) e.symm, fun e => h1 _ (.tail _ (.tail _ (.head _))) e.symm⟩
    · exact ⟨fun e => h2 q hq _ (.head _) e.symm, fun e => h2 q hq _ (.tail _ (.head _)) e.symm, fun e => h2 q hq _ (.tail _ (.tail _ (.head _))) e.symm⟩
  · exact h3.mem q hq
end Mine
end

section
open PySem PySem.W PyProof.Rows PySem.Calls PyProof.Rows.LCg PyProof.Rows.LCt
set_option Elab.async false
set_option maxRecDepth 100000
set_option maxHeartbeats 4000000
namespace Mine
theorem lnI1_0 : True := by
  k_with_none
  w_top off
  k_with "pk" => first | exact pk1 | exact pk2 | exact pk3 | exact pk4 | (refine pkS ?_; k_extra "pk")
  k_with "ne" => (refine neN ?_; (try dsimp only); with_reducible first | assumption | exact .symm (by assumption) | exact pk2 (by assumption) | exact pk4 (by assumption) | (refine pkH (by assumption) ?_; k_extra "pk") | (refine pkL (by assumption) ?_; k_extra "pk") | fail)
  k_with "room" => first | exact rmA (by assumption) rfl | exact rmB (by assumption) rfl | exact rmC (by assumption) rfl | fail
  trivial
section
variable {prog : Program} {w : World} {A : Around} {E : Value → Shared → Prop} {s : Shared} {env : Env} {h₀ : Heap} {x : Str} {body : List Stmt} {Q : Flow → Shared → Prop}
/-- a loop over a range, by an invariant over the names and the ledger -/
theorem range_inv {r : Addr} {a₀ b₀ : Int} {t₀ u₀ v₀ : Tok} {n : Nat} {m₀ : Str → Option Value} {news : List (Addr × Obj)} (J : (Str → Option Value) → List (Addr × Obj) → Prop)
    (hh : A.handled = none) (hr : IsRange s.heap r a₀ b₀ 1 t₀ u₀ v₀) (hsmall : Builtin.Range.small a₀ b₀ 1 = true) (hsz : Builtin.Range.rangeSize a₀ b₀ 1 = (n : Int)) (F : Fr h₀ env.locals s.heap m₀) (N : News h₀ env.locals s.heap news) (hj : J m₀ news)
    (turn : ∀ v m₁ nx h tk own, OwnOff own (nx.map (·.1)) → J m₁ nx → Fr h₀ env.locals h (fun y => if y = x then some v else m₁ y) → News h₀ env.locals h (nx ++ own) →
      wpAny (model prog w) A (execs body env) (InvPostG h₀ env.locals J own { s with heap := h, toks := tk } Q) E { s with heap := h, toks := tk })
    (done : ∀ m₁ nx h tk, J m₁ nx → Fr h₀ env.locals h m₁ → News h₀ env.locals h nx → Q .next { s with heap := h, toks := tk }) :
    wpAny (model prog w) A (pyIter (.ref r)) (fun it s₂ => LoopAtV prog w A h₀ env x body Q E it s₂) E s := by
  refine wpAny_pyIter_range hr hsmall ?_
  have W : Walks prog w A s.heap.objs.size [s.heap.objs.size] [s.heap.objs.size] n (fun i v => i < n ∧ ∃ t, v = .int (a₀ + i * 1) t)
      (fun i h => IsRangeIter h s.heap.objs.size (a₀ + (i : Nat) * 1) ((n : Int) - (i : Nat)) 1) := (Walks.range hh _ a₀ 1 n).bound
  refine kdr_loop (fun _ m nx => J m nx) W (fun _ h => h) (fun _ h => h) ?_ ?_ ?_ ?_ (by show IsRangeIter _ _ _ _ _; rw [hsz]; simpa using Heap.get?_push_size _ rfl) (F.push _) (fun p hp => ⟨Heap.get?_push_of_some _ (N p hp).1, (N p hp).2⟩) hj ?_ ?_
  · intro i h hi b hb
    rw [List.mem_singleton.mp hb]
    exact ⟨_, hi⟩
  · intro hm
    exact absurd F.ns.lt ((List.mem_singleton.mp hm) ▸ Nat.lt_irrefl _)
  · intro b hb
    rw [List.mem_singleton.mp hb]
    exact next_is_new F
  · intro p hp hI
    exact absurd (Heap.lt_size (N p hp).1) ((List.mem_singleton.mp hI) ▸ Nat.lt_irrefl _)
  · rintro i v m₁ nx h tk own hi _ hoff hJ F₁ N₁
    exact turn v m₁ nx h tk own hoff hJ F₁ N₁
  · rintro m₁ nx h tk hJ F₁ N₁
    exact done m₁ nx h tk hJ F₁ N₁
end
theorem once {h₀ : Heap} {L : Addr} {h : Heap} : ∀ {own : List (Addr × Obj)}, News h₀ L h own → ∃ own' : List (Addr × Obj), (∀ q, q ∈ own' ↔ q ∈ own) ∧ (own'.map (·.1) : List Nat).Nodup
  | [], _ => ⟨[], fun q => Iff.rfl, by simp⟩
  | a :: r, N => by
    obtain ⟨r', h1, h2⟩ := once (own := r) fun q hq => N q (.tail _ hq)
    by_cases ha : a.1 ∈ (r'.map (·.1) : List Nat)
    · obtain ⟨b, hb, e⟩ := List.mem_map.mp ha
      have hb' := (h1 b).mp hb
      have e2 : a = b := by
        have g1 := (N a (.head _)).1
        have g2 := (N b (.tail _ hb')).1
        have g3 : h.get? a.1 = some b.2 := by rw [← show b.1 = a.1 from e]; exact g2
        rw [g1] at g3
        exact Prod.ext e.symm (Option.some.inj g3)
      refine ⟨r', fun q => ?_, h2⟩
      rw [h1, List.mem_cons]
      exact ⟨.inr, fun h => h.elim (fun z => z ▸ e2 ▸ hb') id⟩
    · refine ⟨a :: r', fun q => ?_, ?_⟩
      · rw [List.mem_cons, List.mem_cons, h1]
      · rw [List.map_cons, List.nodup_cons]; exact ⟨ha, h2⟩
section
variable {prog : Program} {w : World} {M dM S O src : Addr} {oS oO : Obj} {t1 t2 tm tx ty : Tok} {nM nn : Nat} {x y : Int} {ps : Array Value} {σ : List Ses} {oth keep : List (Addr × Obj)}
theorem st_app : stLed w M dM S O src t1 t2 tm nM oS oO x y tx ty nn ps σ (oth ++ keep) = stLed w M dM S O src t1 t2 tm nM oS oO x y tx ty nn ps σ oth ++ keep := by simp [stLed]
theorem Inv.more (I : Inv prog w M dM S O src oS oO ps σ oth) (hn : (keep.map (·.1) : List Nat).Nodup) (ho : ∀ q ∈ keep, ∀ b ∈ (stLed w M dM S O src t1 t2 tm nM oS oO x y tx ty nn ps σ oth).map (·.1), q.1 ≠ b) : Inv prog w M dM S O src oS oO ps σ (oth ++ keep) := by
  obtain ⟨nd, hS, hO, loS, loO, nn', hl, ok, tab, ky⟩ := I
  refine ⟨inv_nd' ?_, hS, hO, loS, loO, nn', hl, ok, tab.mono (fun q hq => List.mem_append_left _ hq), ky⟩
  have := inv_nd nd
  rw [List.map_append, ← List.append_assoc, ← List.append_assoc]
  rw [← List.append_assoc] at this
  refine List.nodup_append.mpr ⟨this, hn, fun a ha b hb e => ?_⟩
  obtain ⟨q, hq, rfl⟩ := List.mem_map.mp hb
  refine ho q hq a ?_ e.symm
  rw [st_addrs, ← List.append_assoc]
  exact ha
theorem Inv.less {newc : List (Addr × Obj)} (I : Inv prog w M dM S O src oS oO ps σ (newc ++ (oth ++ keep))) (tab : TabOk ps (newc ++ oth)) : Inv prog w M dM S O src oS oO ps σ (newc ++ oth) := by
  obtain ⟨nd, hS, hO, loS, loO, nn', hl, ok, _, ky⟩ := I
  refine ⟨inv_nd' ((inv_nd nd).sublist ?_), hS, hO, loS, loO, nn', hl, ok, tab, ky⟩
  refine (List.Sublist.refl _).append ((List.Sublist.refl _).append (List.Sublist.map _ ?_))
  exact (List.Sublist.refl _).append (List.sublist_append_left _ _)
theorem Inv.apart {newc : List (Addr × Obj)} (I : Inv prog w M dM S O src oS oO ps σ (newc ++ (oth ++ keep))) : ∀ q ∈ keep, ∀ b ∈ (stLed w M dM S O src t1 t2 tm nM oS oO x y tx ty nn ps σ (newc ++ oth)).map (·.1), q.1 ≠ b := by
  intro q hq b hb e
  have nd := inv_nd I.nd
  have e2 : (([M, dM, S, O, src, 285] : List Nat) ++ (((ledS w σ).map (·.1) : List Nat) ++ ((newc ++ (oth ++ keep)).map (·.1) : List Nat))) = (([M, dM, S, O, src, 285] : List Nat) ++ (((ledS w σ).map (·.1) : List Nat) ++ ((newc ++ oth).map (·.1) : List Nat))) ++ (keep.map (·.1) : List Nat) := by simp
  rw [e2] at nd
  rw [st_addrs] at hb
  exact (List.nodup_append.mp nd).2.2 b hb q.1 (List.mem_map.mpr ⟨q, hq, rfl⟩) e.symm
theorem Inv.start (hS : oS.IsDictOf (intKind prog w) []) (hO : oO.IsDictOf (intKind prog w) []) (loS : (S == sysModules) = false) (loO : (O == sysModules) = false) (nd : ([M, dM, S, O, src, 285] : List Nat).Nodup) : Inv prog w M dM S O src oS oO #[] [] [] :=
  ⟨by simpa [ledS] using nd, hS, hO, loS, loO, by simp, by simp, (fun c h => by cases h), ⟨trivial, (fun pos cv h => by cases h)⟩, (fun c h => by cases h)⟩
end
theorem memT2 {x y : Addr × Obj} {R l : List (Addr × Obj)} (h1 : x ∈ l) (h2 : y ∈ l) (h3 : ∀ q ∈ R, q ∈ l) : ∀ q ∈ x :: y :: R, q ∈ l := fun q hq => by
  rcases List.mem_cons.mp hq with rfl | hq
  · exact h1
  rcases List.mem_cons.mp hq with rfl | hq
  · exact h2
  exact h3 q hq
theorem neT2 {x y : Addr × Obj} {R : List (Addr × Obj)} {S : Addr} (h1 : x.1 ≠ S) (h2 : y.1 ≠ S) (h3 : ∀ q ∈ R, q.1 ≠ S) : ∀ q ∈ x :: y :: R, q.1 ≠ S := fun q hq => by
  rcases List.mem_cons.mp hq with rfl | hq
  · exact h1
  rcases List.mem_cons.mp hq with rfl | hq
  · exact h2
  exact h3 q hq
end Mine
end

section
open PySem PySem.W PyProof.Rows PySem.Calls PyProof.Rows.LCg PyProof.Rows.LCt
set_option Elab.async false
set_option maxRecDepth 100000
set_option maxHeartbeats 8000000
namespace Mine
theorem lnQ1_0 : True := by
  k_with_none
  w_top off
  k_with "pk" => first | exact pk1 | exact pk2 | exact pk3 | exact pk4 | (refine pkS ?_; k_extra "pk")
  k_with "ne" => (refine neN ?_; (try dsimp only); with_reducible first | assumption | exact .symm (by assumption) | exact pk2 (by assumption) | exact pk4 (by assumption) | (refine pkH (by assumption) ?_; k_extra "pk") | (refine pkL (by assumption) ?_; k_extra "pk") | fail)
  k_with "room" => first | exact rmA (by assumption) rfl | exact rmB (by assumption) rfl | exact rmC (by assumption) rfl | fail
  trivial
section
variable {prog : Program} {w : World} {p : Program} {loose : List Str} {mean : ExcName → Option Value} {mg mb : Str → Option Value} {dp un : Nat} {gd : Option (List Code)} {cn : Str} {cs : Scope} {a : Addr} {ccd : Value} {cl : List (Str × Addr)} {outer : List Env} {A₀ : Around} {base h₀ : Heap} {L : Addr} {m : Str → Option Value} {s : Shared} {Q E : Value → Shared → Prop} {news : List (Addr × Obj)}



theorem lnQ1_1 : True := by
  k_with "eval ListComp" => (k_here; k_dflt (refine comp_dT (PySem.intKind _ _) (by k_asm) (by with_unfolding_all rfl) (by decide) (by rfl) (by decide) (by rfl) ?_))
  k_with "getItem ref int" => (k_here; (with_reducible show wpAny _ _ (getItem (Value.ref _) (Value.int _ _)) _ _ _); (refine' dict_getitem (knd := PySem.intKind _ _) (intKind_is _ _ _ _) ?NQ154 ?hQ154 ?dQ154 ?lQ154 ?_; (case NQ154 => k_asm); (case hQ154 => k_mem); (case dQ154 => k_asm); (case lQ154 => exact valueAt_ses Ses.num (fun c => Value.ref c.inst) (by assumption) (by assumption))))
  k_with "compareOp In int ref" => (k_here; (refine' kda_in (knd := PySem.intKind _ _) ?NQ155 ?hQ155 ?dQ155 ?lQ155 (intKind_is _ _ _ _) _ ?bQ155 ?_; (case NQ155 => k_asm); (case hQ155 => k_mem); (case dQ155 => k_asm); (case lQ155 => assumption); (case bQ155 => exact rfl); k_whole))
  k_with "compareOp NotEq ref ref" => (k_here; k_dflt (refine ke_ne_ints (by is_list) (ys := []) (by is_list) (by assumption) .nil (by ke_room) ?_))
  trivial
noncomputable abbrev Ses.led3 (w : World) (c : Ses) : List (Addr × Obj) := [(c.inst, instObj 161 c.dict), (c.dict, sesD w c), (c.src, c.so)]
noncomputable def ledM (w : World) (σ : List Ses) : List (Addr × Obj) := σ.flatMap (Ses.led3 w)
theorem ledM_mem {w : World} {σ : List Ses} {c : Ses} (hc : c ∈ σ) : ∀ q ∈ c.led3 w, q ∈ ledM w σ := fun q hq => List.mem_flatMap.mpr ⟨c, hc, hq⟩
theorem goal_ledgerM {w : World} {M dM S : Addr} {oS : Obj} {t1 t2 tm : Tok} {nM : Nat} {σ : List Ses} (hm : ∀ q ∈ (M, instObj 236 dM) :: (dM, mirD w t1 t2 tm S nM) :: (S, oS) :: ledM w σ, q ∈ news) (N0 : News h₀ L s.heap news) : News h₀ L s.heap ((M, instObj 236 dM) :: (dM, mirD w t1 t2 tm S nM) :: (S, oS) :: news) := ledger_sub N0 (by
    intro q hq
    rcases List.mem_cons.mp hq with rfl | hq
    · exact hm _ (.head _)
    rcases List.mem_cons.mp hq with rfl | hq
    · exact hm _ (.tail _ (.head _))
    rcases List.mem_cons.mp hq with rfl | hq
    · exact hm _ (.tail _ (.tail _ (.head _)))
    exact hq)

theorem turn_ledgerM {w : World} {a1 a2 a3 a4 a5 a6 a7 a8 : Addr × Obj} {h : Heap} {σ : List Ses} {c : Ses} (hc : c ∈ σ) (hm : ∀ q ∈ ledM w σ, q ∈ news) (N : News h₀ L h (a1 :: a2 :: a3 :: a4 :: a5 :: a6 :: a7 :: a8 :: news)) :
    News h₀ L h (a1 :: a2 :: a3 :: a4 :: a5 :: a6 :: a7 :: a8 :: (c.inst, instObj 161 c.dict) :: (c.dict, sesD w c) :: (c.src, c.so) :: news) := ledger_sub N fun q hq => (List.mem_append (s := [a1, a2, a3, a4, a5, a6, a7, a8]).mp hq).elim (fun z => List.mem_append_left (as := [a1, a2, a3, a4, a5, a6, a7, a8]) news z) fun z => List.mem_append_right [a1, a2, a3, a4, a5, a6, a7, a8] ((List.forall_mem_cons.mpr ⟨hm _ (ledM_mem hc _ (.head _)), List.forall_mem_cons.mpr ⟨hm _ (ledM_mem hc _ (.tail _ (.head _))), List.forall_mem_cons.mpr ⟨hm _ (ledM_mem hc _ (.tail _ (.tail _ (.head _)))), fun _ h => h⟩⟩⟩ : ∀ q ∈ _, q ∈ news) q z)

theorem is_goal_specM {M dM S : Addr} {oS : Obj} {t1 t2 tm : Tok} {nM : Nat} {σ : List Ses} {port : Int} {tn : Tok}
    (B : Below A₀ base outer h₀) (F : Fr h₀ L s.heap m) (X : (pre.heap_1 w.params).In h₀) (N0 : News h₀ L s.heap news) (T : Top p loose mean mg mb h₀) (hk : cs.kind = .function)
    (hm : ∀ q ∈ (M, instObj 236 dM) :: (dM, mirD w t1 t2 tm S nM) :: (S, oS) :: ledM w σ, q ∈ news)
    (hd : dp + 210 < recursionLimit) (hu : un + 80 < cLine) (hS : oS.IsDictOf (intKind prog w) (kvM σ)) (lo : (S == sysModules) = false) (hn : (σ.map (·.num)).Nodup) (hl : σ.length ≤ 3)
    (hret : ∀ h' tk', Fr h₀ L h' m → News h₀ L h' news → Q (.bool (σ.any fun c => c.goal = port)) { s with heap := h', toks := tk' }) :
    wpAny (model prog w) (ktrTop dp un gd cn cs L a ccd cl outer) (call (.ref 185) [.ref M, .int port tn]) Q E s := by
  have N := goal_ledgerM hm N0
  refine wpAny_call ?_
  k_dflt (refine' code_defC ?k1Q157 ?k2Q157 ?k3Q157 ?k4Q157 ?k5Q157 ?kAQ157 ?kFQ157 ?kKQ157 ?k6Q157 ?k7Q157 ?k8Q157 ?k9Q157 ?kBQ157 ?kDQ157 ?_ ?c2Q157 ?c3Q157 ?c4Q157; (case kAQ157 => exact rfl); (case kFQ157 => exact rfl); (case kKQ157 => assumption); (case k1Q157 => k_asm); (case k2Q157 => k_asm); (case k3Q157 => k_asm); (case k4Q157 => k_asm); (case k5Q157 => k_asm); (case k6Q157 => k_is); (case k7Q157 => k_is); (case k8Q157 => ktr_room); (case k9Q157 => exact BindsTo.of_eq rfl); (case kBQ157 => exact rfl); (case kDQ157 => decide +kernel); (case c2Q157 => exact rfl); (case c3Q157 => exact rfl); (case c4Q157 => exact rfl); k_whole; intro g' L' h' tk' cells' FG' F' N' Y' B' X' T' l1; (try k_lt l1); k_cells Y'; (try simp only [List.cons_append, List.nil_append] at N'); (try dsimp only); (try k_lift B'); (try k_fold))
  k_steps
  refine dsrcT_filter (σ := σ) (key := (·.num)) (val := fun c => .ref c.inst) (f := fun c => c.goal = port) (by rfl) (by assumption) (by assumption) (by k_mem) hS lo (by rw [PySem.sizeLine_eq]; omega) ?_ ?_
  · intro c t I oI C oC D m₂ ys h tk E' hc hC hx F2 N2 off ne
    unfold TurnIs
    have N3 := turn_ledgerM hc (fun q hq => hm q (.tail _ (.tail _ (.tail _ hq)))) N2
    skip
    k_steps
    all_goals first
      | exact ⟨_, _, _, rfl, by assumption, by assumption, off, by k_mem, rfl, _, rfl⟩
      | exact ⟨_, _, _, rfl, by assumption, by assumption, off, by k_mem, rfl⟩
      | skip
    all_goals trace_state
  · intro ys D h tk hy F3 N3 o3
    dsimp only
    k_steps
    rw [filter_ne_nil]
    refine hret _ _ ?_ ?_
    · assumption
    · exact ledger_sub (by assumption) (by intro q hq; simp [hq])

end
end Mine
end

section
open PySem PySem.W PyProof.Rows PySem.Calls PyProof.Rows.LCg PyProof.Rows.LCt
set_option Elab.async false
set_option maxRecDepth 100000
set_option maxHeartbeats 8000000
namespace Mine
theorem lnQ2_0 : True := by
  k_with_none
  w_top off
  k_with "pk" => first | exact pk1 | exact pk2 | exact pk3 | exact pk4 | (refine pkS ?_; k_extra "pk")
  k_with "ne" => (refine neN ?_; (try dsimp only); with_reducible first | assumption | exact .symm (by assumption) | exact pk2 (by assumption) | exact pk4 (by assumption) | (refine pkH (by assumption) ?_; k_extra "pk") | (refine pkL (by assumption) ?_; k_extra "pk") | fail)
  k_with "room" => first | exact rmA (by assumption) rfl | exact rmB (by assumption) rfl | exact rmC (by assumption) rfl | fail
  trivial
section
variable {prog : Program} {w : World} {p : Program} {loose : List Str} {mean : ExcName → Option Value} {mg mb : Str → Option Value} {dp un : Nat} {gd : Option (List Code)} {cn : Str} {cs : Scope} {a : Addr} {ccd : Value} {cl : List (Str × Addr)} {outer : List Env} {A₀ : Around} {base h₀ : Heap} {L : Addr} {m : Str → Option Value} {s : Shared} {Q E : Value → Shared → Prop} {news : List (Addr × Obj)}




theorem lnQ2_1 : True := by
  k_with "exec Raise some none" => (k_here; k_dflt (refine raise_own (by rfl) ?_))
  k_with "call ref" => (k_here; (with_reducible show wpAny _ _ (call (Value.ref 51) _) _ _ _); (refine' exc_make ?BQ159 ?FQ159 ?XQ159 ?NQ159 ?TQ159 ?kQ159 ?dQ159 ?uQ159 ?_; (case BQ159 => k_asm); (case FQ159 => k_asm); (case XQ159 => k_asm); (case NQ159 => k_asm); (case TQ159 => k_asm); (case kQ159 => first | exact rfl | assumption); (case dQ159 => ktr_room); (case uQ159 => ktr_units)); intro h' tk' e' t1' d1' F' N' o1' o2' o3'; revert h' tk' e' t1' d1' F' N' o1' o2' o3'; intro _ _ _ _ _ _ _ _ _ _)
  k_with "RaisableX" => (k_here; refine ⟨_, _, _, rfl, (‹News _ _ _ ((_, excOd _ _) :: _)› _ (.head _)).1, rfl, rfl, rfl, Frag.In.keeps (by k_asm) (Fr.keep (by k_asm)), ?_⟩)
  k_with "leaving ref" => (k_here; (refine' leave_raiseZ ?BQ161 ?FQ161 ?NQ161 ?o1Q161 ?o2Q161 ?o3Q161 ?_; (case BQ161 => k_asm); (case FQ161 => k_asm); (case NQ161 => k_asm); (case o1Q161 => assumption); (case o2Q161 => assumption); (case o3Q161 => assumption)); intro h' R' U'; (try dsimp only at R' U' ⊢); revert h' R' U'; intro _ _ _)
  k_with "leaving ref" => (k_here; (refine' leave_onS ?k1Q162 ?k2Q162 ?k3Q162 ?k4Q162 ?_; (case k3Q162 => assumption); (case k1Q162 => assumption); (case k4Q162 => assumption); (case k2Q162 => assumption); k_whole; intro h' R' K' U'; (try dsimp only at R' U' ⊢); revert h' R' K' U'; intro _ _ _ _))
  k_with "compareOp NotIn int ref" => (k_here; (refine' kdg_notin (knd := PySem.intKind _ _) ?NQ163 ?hQ163 ?dQ163 ?lQ163 (intKind_is _ _ _ _) _ ?bQ163 ?_; (case NQ163 => k_asm); (case hQ163 => k_mem); (case dQ163 => assumption); (case lQ163 => assumption); (case bQ163 => exact rfl); k_whole); (try dsimp only [Bool.not_true, Bool.not_false]))
  k_with "getItem ref int" => (k_here; (with_reducible show wpAny _ _ (getItem (Value.ref _) (Value.int _ _)) _ _ _); (refine' dict_getitem (knd := PySem.intKind _ _) (intKind_is _ _ _ _) ?NQ164 ?hQ164 ?dQ164 ?lQ164 ?_; (case NQ164 => k_asm); (case hQ164 => k_mem); (case dQ164 => k_asm); (case lQ164 => assumption)))
  k_with "subscriptTail" => (k_here; k_dflt ((with_reducible show wpAny _ _ (subscriptTail _ _ (Value.ref _) (Value.int _ _)) _ _ _); refine kda_item (knd := PySem.intKind _ _) (by k_asm) (by k_mem) (by k_asm) (intKind_is _ _ _ _) (by assumption) ?_))
  k_with "call ref" => (k_here; (with_reducible show wpAny _ _ (call (Value.ref 185) _) _ _ _); (refine' is_goal_specM ?BQ166 ?FQ166 ?XQ166 ?NQ166 ?TQ166 ?kQ166 ?mQ166 ?dQ166 ?uQ166 ?SQ166 ?lQ166 ?nQ166 ?lenQ166 ?_; (case BQ166 => k_asm); (case FQ166 => k_asm); (case XQ166 => k_asm); (case NQ166 => k_asm); (case TQ166 => k_asm); (case kQ166 => first | exact rfl | assumption); (case mQ166 => assumption); (case SQ166 => assumption); (case dQ166 => ktr_room); (case uQ166 => ktr_units); (case lQ166 => assumption); (case nQ166 => assumption); (case lenQ166 => assumption)); intro h' tk' F' N'; revert h' tk' F' N'; intro _ _ _ _)
  k_with "call ref" => (k_here; (with_reducible show wpAny _ _ (call (Value.ref 205) _) _ _ _); (refine' session_ok ?BQ167 ?FQ167 ?XQ167 ?NQ167 ?TQ167 ?kQ167 ?mQ167 ?dQ167 ?uQ167 ?SQ167 ?lQ167 ?vQ167 ?_; (case BQ167 => k_asm); (case FQ167 => k_asm); (case XQ167 => k_asm); (case NQ167 => k_asm); (case TQ167 => k_asm); (case kQ167 => first | exact rfl | assumption); (case mQ167 => assumption); (case SQ167 => assumption); (case dQ167 => ktr_room); (case uQ167 => ktr_units); (case lQ167 => assumption); (case vQ167 => assumption)); intro h' tk' F' N'; revert h' tk' F' N'; intro _ _ _ _)
  k_with "call ref" => (k_here; (with_reducible show wpAny _ _ (call (Value.ref 205) _) _ _ _); (refine' session_bad ?BQ168 ?FQ168 ?XQ168 ?NQ168 ?TQ168 ?kQ168 ?mQ168 ?dQ168 ?uQ168 ?SQ168 ?lQ168 ?vQ168 ?_; (case BQ168 => k_asm); (case FQ168 => k_asm); (case XQ168 => k_asm); (case NQ168 => k_asm); (case TQ168 => k_asm); (case kQ168 => first | exact rfl | assumption); (case mQ168 => assumption); (case SQ168 => assumption); (case dQ168 => ktr_room); (case uQ168 => ktr_units); (case lQ168 => assumption); (case vQ168 => assumption)); intro G' h' tk' e' t' vs' F' R' U'; revert G' h' tk' e' t' vs' F' R' U'; intro _ _ _ _ _ _ _ _ _)
  k_with "setItem ref int" => (k_here; k_dflt (refine' kda_set (knd := PySem.intKind _ _) ?FQ169 ?NQ169 ?UQ169 ?dQ169 (intKind_is _ _ _ _) ?zQ169 ?_; (case FQ169 => k_asm); (case NQ169 => k_asm); (case UQ169 => k_updF); (case dQ169 => k_asm); (case zQ169 => rw [sizeLine_eq]; omega)); intro h' o' F' N' hd'; (try dsimp only at N'); revert h' o' F' N' hd'; intro _ _ _ _ _)
  k_with "call builtin:dict.pop" => (k_here; k_dflt (((with_reducible show wpAny _ _ (call (Value.builtin "dict.pop") [Value.ref _, Value.int _ _]) _ _ _); refine' kob_pop (knd := PySem.intKind _ _) (more := []) ?FQ170 ?NQ170 ?UQ170 ?dQ170 (intKind_is _ _ _ _) (.inl rfl) (by rfl) (PySem.F.args_dict_pop_2 _ _) ?lQ170 ?zQ170 ?_; (case FQ170 => k_asm); (case NQ170 => k_asm); (case UQ170 => k_updF); (case dQ170 => k_asm); (case lQ170 => assumption); (case zQ170 => rw [sizeLine_eq]; omega))); intro h' o' F' N' hd'; (try dsimp only at N'); revert h' o' F' N' hd'; intro _ _ _ _ _)
  k_with "getMethod ref" => (k_here; (with_reducible show wpAny _ _ (getMethod (Value.ref _) (Str.ofString "pop") _) _ _ _); k_dflt (refine kob_method (knd := PySem.intKind _ _) PySem.F.slot_dict_pop PySem.F.type_dict_pop (by k_asm) (by k_mem) (by k_asm) ?_))
  k_with "compareOp NotIn str ref" => (k_here; refine notin_ways (Frag.In.keeps (by k_asm) (Fr.keep (by k_asm))) ?_)
  trivial
theorem six_memM {M dM S : Addr} {oS : Obj} {t1 t2 tm : Tok} {nM : Nat} {σ : List Ses} {c : Ses} (hm : ∀ q ∈ (M, instObj 236 dM) :: (dM, mirD w t1 t2 tm S nM) :: (S, oS) :: ledM w σ, q ∈ news) (hc : c ∈ σ) :
    ∀ q ∈ [(M, instObj 236 dM), (dM, mirD w t1 t2 tm S nM), (S, oS), (c.inst, instObj 161 c.dict), (c.dict, sesD w c), (c.src, c.so)], q ∈ news := List.forall_mem_cons.mpr ⟨hm _ (.head _), List.forall_mem_cons.mpr ⟨hm _ (.tail _ (.head _)), List.forall_mem_cons.mpr ⟨hm _ (.tail _ (.tail _ (.head _))), List.forall_mem_cons.mpr ⟨hm _ (.tail _ (.tail _ (.tail _ (ledM_mem hc _ (.head _))))), List.forall_mem_cons.mpr ⟨hm _ (.tail _ (.tail _ (.tail _ (ledM_mem hc _ (.tail _ (.head _)))))), List.forall_mem_cons.mpr ⟨hm _ (.tail _ (.tail _ (.tail _ (ledM_mem hc _ (.tail _ (.tail _ (.head _))))))), List.forall_mem_nil _⟩⟩⟩⟩⟩⟩

theorem add_okM {M dM S : Addr} {oS : Obj} {t1 t2 tm : Tok} {nM : Nat} {σ : List Ses} {c : Ses} {tn : Tok} {port : Int} {tp : Tok} {way : Str} {tw : Tok} {rest : List (Addr × Obj)}
    (B : Below A₀ base outer h₀) (F : Fr h₀ L s.heap m) (X : (pre.heap_1 w.params).In h₀) (N0 : News h₀ L s.heap ((c.src, c.so) :: rest)) (T : Top p loose mean mg mb h₀) (hk : cs.kind = .function)
    (hoff : ∀ q ∈ rest, q.1 ≠ c.src) (hoff5 : ∀ q ∈ [(M, instObj 236 dM), (dM, mirD w t1 t2 tm S nM), (S, oS), (c.inst, instObj 161 c.dict), (c.dict, sesD w c)], q.1 ≠ c.src)
    (hm : ∀ q ∈ (M, instObj 236 dM) :: (dM, mirD w t1 t2 tm S nM) :: (S, oS) :: ledM w σ, q ∈ (c.src, c.so) :: rest)
    (hd : dp + 240 < recursionLimit) (hu : un + 200 < cLine) (hS : oS.IsDictOf (intKind prog w) (kvM σ)) (lo : (S == sysModules) = false) (hn : (σ.map (·.num)).Nodup) (hl : σ.length ≤ 3) (ok : ∀ c ∈ σ, c.Ok prog w) (hc : c ∈ σ)
    (good : waysL.any (· == way) = true ∧ (σ.any fun c => c.goal = port) = false)
    (hret : ∀ h' tk so' v', Fr h₀ L h' m → News h₀ L h' ((c.src, so') :: rest) → so'.IsDictOf (intKind prog w) (stored c.kv port (.str way tw)) → Q v' { s with heap := h', toks := tk }) :
    wpAny (model prog w) (ktrTop dp un gd cn cs L a ccd cl outer) (call (.ref 212) [.ref M, .int c.num tn, .int port tp, .str way tw]) Q E s := by
  have hv : valueAt (kvM σ) c.num = some (.ref c.inst) := valueAt_ses Ses.num (fun c => Value.ref c.inst) hn hc
  obtain ⟨hso, -, -, -, -, hlo, -, hlen, -⟩ := ok c hc
  have h6 : ∀ q ∈ [(M, instObj 236 dM), (dM, mirD w t1 t2 tm S nM), (S, oS), (c.inst, instObj 161 c.dict), (c.dict, sesD w c), (c.src, c.so)], q ∈ ((c.src, c.so) :: rest) := six_memM hm hc
  have hmS : ∀ q ∈ [(M, instObj 236 dM), (dM, mirD w t1 t2 tm S nM), (S, oS)], q ∈ (M, instObj 236 dM) :: (dM, mirD w t1 t2 tm S nM) :: (S, oS) :: (c.inst, instObj 161 c.dict) :: (c.dict, sesD w c) :: (c.src, c.so) :: rest := fun q hq => by
    simp only [List.mem_cons] at hq ⊢
    rcases hq with h | h | h | h
    · exact .inl h
    · exact .inr (.inl h)
    · exact .inr (.inr (.inl h))
    · cases h
  have hmG : ∀ q ∈ (M, instObj 236 dM) :: (dM, mirD w t1 t2 tm S nM) :: (S, oS) :: ledM w σ, q ∈ (M, instObj 236 dM) :: (dM, mirD w t1 t2 tm S nM) :: (S, oS) :: (c.inst, instObj 161 c.dict) :: (c.dict, sesD w c) :: (c.src, c.so) :: rest := fun q hq => .tail _ (.tail _ (.tail _ (.tail _ (.tail _ (hm q hq)))))
  have N := led5 (fun q hq => h6 q (List.mem_append_left [_] hq)) N0
  have n1 : M ≠ c.src := hoff5 (M, instObj 236 dM) (by simp)
  have n2 : dM ≠ c.src := hoff5 (dM, mirD w t1 t2 tm S nM) (by simp)
  have n3 : S ≠ c.src := hoff5 (S, oS) (by simp)
  have n4 : c.inst ≠ c.src := hoff5 (c.inst, instObj 161 c.dict) (by simp)
  have n5 : c.dict ≠ c.src := hoff5 (c.dict, sesD w c) (by simp)
  refine wpAny_call ?_
  k_dflt ktr_enter
  k_steps
  all_goals first
    | exact hret _ _ _ _ (by assumption) (drop5 (by assumption)) (by assumption)
    | (exfalso; simp_all)

end
end Mine
end

section
open PySem PySem.W PyProof.Rows PySem.Calls PyProof.Rows.LCg PyProof.Rows.LCt
set_option Elab.async false
set_option maxRecDepth 100000
set_option maxHeartbeats 8000000
namespace Mine
theorem lnQ3_0 : True := by
  k_with_none
  w_top off
  k_with "pk" => first | exact pk1 | exact pk2 | exact pk3 | exact pk4 | (refine pkS ?_; k_extra "pk")
  k_with "ne" => (refine neN ?_; (try dsimp only); with_reducible first | assumption | exact .symm (by assumption) | exact pk2 (by assumption) | exact pk4 (by assumption) | (refine pkH (by assumption) ?_; k_extra "pk") | (refine pkL (by assumption) ?_; k_extra "pk") | fail)
  k_with "room" => first | exact rmA (by assumption) rfl | exact rmB (by assumption) rfl | exact rmC (by assumption) rfl | fail
  trivial
section
variable {prog : Program} {w : World} {p : Program} {loose : List Str} {mean : ExcName → Option Value} {mg mb : Str → Option Value} {dp un : Nat} {gd : Option (List Code)} {cn : Str} {cs : Scope} {a : Addr} {ccd : Value} {cl : List (Str × Addr)} {outer : List Env} {A₀ : Around} {base h₀ : Heap} {L : Addr} {m : Str → Option Value} {s : Shared} {Q E : Value → Shared → Prop} {news : List (Addr × Obj)}




theorem lnQ3_1 : True := by
  k_with "exec Raise some none" => (k_here; k_dflt (refine raise_own (by rfl) ?_))
  k_with "call ref" => (k_here; (with_reducible show wpAny _ _ (call (Value.ref 51) _) _ _ _); (refine' exc_make ?BQ174 ?FQ174 ?XQ174 ?NQ174 ?TQ174 ?kQ174 ?dQ174 ?uQ174 ?_; (case BQ174 => k_asm); (case FQ174 => k_asm); (case XQ174 => k_asm); (case NQ174 => k_asm); (case TQ174 => k_asm); (case kQ174 => first | exact rfl | assumption); (case dQ174 => ktr_room); (case uQ174 => ktr_units)); intro h' tk' e' t1' d1' F' N' o1' o2' o3'; revert h' tk' e' t1' d1' F' N' o1' o2' o3'; intro _ _ _ _ _ _ _ _ _ _)
  k_with "RaisableX" => (k_here; refine ⟨_, _, _, rfl, (‹News _ _ _ ((_, excOd _ _) :: _)› _ (.head _)).1, rfl, rfl, rfl, Frag.In.keeps (by k_asm) (Fr.keep (by k_asm)), ?_⟩)
  k_with "leaving ref" => (k_here; (refine' leave_raiseZ ?BQ176 ?FQ176 ?NQ176 ?o1Q176 ?o2Q176 ?o3Q176 ?_; (case BQ176 => k_asm); (case FQ176 => k_asm); (case NQ176 => k_asm); (case o1Q176 => assumption); (case o2Q176 => assumption); (case o3Q176 => assumption)); intro h' R' U'; (try dsimp only at R' U' ⊢); revert h' R' U'; intro _ _ _)
  k_with "leaving ref" => (k_here; (refine' leave_onS ?k1Q177 ?k2Q177 ?k3Q177 ?k4Q177 ?_; (case k3Q177 => assumption); (case k1Q177 => assumption); (case k4Q177 => assumption); (case k2Q177 => assumption); k_whole; intro h' R' K' U'; (try dsimp only at R' U' ⊢); revert h' R' K' U'; intro _ _ _ _))
  k_with "call builtin:sorted" => (k_here; (with_reducible show wpAny _ _ (call (Value.builtin "sorted") [Value.ref _]) _ _ _); (refine' sorted_dict ?hhQ178 ?FQ178 ?NQ178 ?pQ178 ?dQ178 ?lQ178 ?zQ178 ?_; (case hhQ178 => rfl); (case FQ178 => k_asm); (case NQ178 => k_asm); (case pQ178 => k_mem); (case dQ178 => assumption); (case lQ178 => assumption); (case zQ178 => rw [List.length_map]; omega)); intro B' h' tk' vs' ns' c' F' N' l1 hI hP hO; (try k_lt l1); revert B' h' tk' vs' ns' c' F' N' l1 hI hP hO; intro _ _ _ _ _ _ _ _ _ _ _ _; refine Stop.go ?_)
  k_with "call builtin:list.append" => (k_here; (with_reducible show wpAny _ _ (call (Value.builtin _) [Value.ref _, _]) _ _ _); k_dflt (refine' append_led ?FQ179 ?NQ179 ?TQ179 ?rQ179 ?zQ179 ?_; (case FQ179 => k_asm); (case NQ179 => k_asm); (case TQ179 => k_ne); (case rQ179 => assumption); (case zQ179 => assumption)); intro h' F' N'; revert h' F' N'; intro _ _ _)
  k_with "getItem ref int" => (k_here; (with_reducible show wpAny _ _ (getItem (Value.ref _) (Value.int _ _)) _ _ _); (refine' dict_getitem (knd := PySem.intKind _ _) (intKind_is _ _ _ _) ?NQ180 ?hQ180 ?dQ180 ?lQ180 ?_; (case NQ180 => k_asm); (case hQ180 => k_mem); (case dQ180 => k_asm); (case lQ180 => exact valueAt_ses Ses.num (fun c => Value.ref c.inst) (by assumption) (by assumption))))
  k_with "call ref" => (k_here; (with_reducible show wpAny _ _ (call (Value.ref 151) _) _ _ _); k_dflt (refine' takes_none ?BQ181 ?FQ181 ?XQ181 ?NQ181 ?TQ181 ?kQ181 ?dQ181 ?uQ181 ?SQ181 ?lQ181 ?vQ181 ?_; (case BQ181 => k_asm); (case FQ181 => k_asm); (case XQ181 => k_asm); (case NQ181 => exact ses3 (by assumption)); (case TQ181 => k_asm); (case kQ181 => first | exact rfl | assumption); (case SQ181 => assumption); (case dQ181 => ktr_room); (case uQ181 => ktr_units); (case lQ181 => assumption); (case vQ181 => assumption)); intro h' tk' F' N'; revert h' tk' F' N'; intro _ _ _ _)
  k_with "call ref" => (k_here; (with_reducible show wpAny _ _ (call (Value.ref 151) _) _ _ _); k_dflt (refine' takes_some ?BQ182 ?FQ182 ?XQ182 ?NQ182 ?TQ182 ?kQ182 ?dQ182 ?uQ182 ?SQ182 ?lQ182 ?vQ182 ?_; (case BQ182 => k_asm); (case FQ182 => k_asm); (case XQ182 => k_asm); (case NQ182 => exact ses3 (by assumption)); (case TQ182 => k_asm); (case kQ182 => first | exact rfl | assumption); (case SQ182 => assumption); (case dQ182 => ktr_room); (case uQ182 => ktr_units); (case lQ182 => assumption); (case vQ182 => assumption)); intro h' tk' F' N'; revert h' tk' F' N'; intro _ _ _ _)
  k_with "call ref" => (k_here; (with_reducible show wpAny _ _ (call (Value.ref 158) _) _ _ _); (refine' copy_spec ?BQ183 ?FQ183 ?XQ183 ?NQ183 ?TQ183 ?kQ183 ?c1Q183 ?c2Q183 ?fQ183 ?ftQ183 ?vQ183 ?dQ183 ?uQ183 ?_; (case BQ183 => k_asm); (case FQ183 => k_asm); (case XQ183 => k_asm); (case NQ183 => k_asm); (case TQ183 => k_asm); (case kQ183 => first | exact rfl | assumption); (case c1Q183 => k_mem); (case c2Q183 => k_mem); (case fQ183 => assumption); (case ftQ183 => assumption); (case vQ183 => assumption); (case dQ183 => ktr_room); (case uQ183 => ktr_units)); intro h' tk' f' add' F' N' hlt' hled' hcop'; have hod' := off_add hlt' (by assumption); revert h' tk' f' add' F' N' hlt' hled' hcop' hod'; intro _ _ _ _ _ _ _ _ _ _)
  trivial
theorem copies_specM {M dM S : Addr} {oS : Obj} {t1 t2 tm : Tok} {nM : Nat} {σ : List Ses} {f : Frm} {port : Int} {tp : Tok} {way : Str} {tw : Tok}
    (B : Below A₀ base outer h₀) (F : Fr h₀ L s.heap m) (X : (pre.heap_1 w.params).In h₀) (N0 : News h₀ L s.heap news) (T : Top p loose mean mg mb h₀) (hk : cs.kind = .function)
    (hm : ∀ q ∈ (M, instObj 236 dM) :: (dM, mirD w t1 t2 tm S nM) :: (S, oS) :: ledM w σ, q ∈ news) (hf : ∀ q ∈ f.led w, q ∈ news) (hft : f.tags = [] ∨ ∃ g, f.tags = [g])
    (hd : dp + 290 < recursionLimit) (hu : un + 200 < cLine) (hS : oS.IsDictOf (intKind prog w) (kvM σ)) (lo : (S == sysModules) = false) (hn : (σ.map (·.num)).Nodup) (hl : σ.length ≤ 3) (ok : ∀ c ∈ σ, c.Ok prog w)
    (hret : ∀ h' tk (D : Addr) (acc : List Value) (n : Nat) (cps : List Cp) (ns : List Int) (add : List (Addr × Obj)), Fr h₀ L h' m → News h₀ L h' ((D, listOf (List.toArray acc) n) :: (add ++ news)) → (∀ q ∈ add ++ news, q.1 ≠ D) → (∀ q ∈ add, ∀ p ∈ news, q.1 ≠ p.1) → acc = cps.map (fun cp => Value.ref cp.tup) → (∀ cp ∈ cps, cp.Ok w f (add ++ news)) →
      ns.Perm (σ.map (·.num)) → ns.Pairwise (· ≤ ·) → cps.map (·.c) = ns.filterMap (hitOf σ port way) → Q (.ref D) { s with heap := h', toks := tk }) :
    wpAny (model prog w) (ktrTop dp un gd cn cs L a ccd cl outer) (call (.ref 233) [.ref M, .int port tp, .str way tw, .ref f.inst]) Q E s := by
  have N := goal_ledgerM hm N0
  refine wpAny_call ?_
  k_dflt ktr_enter
  k_steps
  rename_i D hx l1 hy F1 N1 B2 h2 tk2 vs ns c2 F2 N2 hI hP hO l2
  unfold Stop
  refine kd_listI (Led := fun c : CpSt => [(D, listOf (List.toArray c.acc) c.n)]) (cst := (B2, listOf (List.toArray vs) c2) :: (M, instObj 236 dM) :: (dM, mirD w t1 t2 tm S nM) :: (S, oS) :: news) (ps := fun _ => []) (Facts := fun nw c => c.acc = c.cps.map (fun cp => Value.ref cp.tup) ∧ ∀ cp ∈ c.cps, cp.Ok w f nw) (stored := [Str.ofString "session"]) (P := fun pre c => c.cps.map (·.c) = pre.filterMap (hitOf σ port way)) (adr := D :: B2 :: M :: dM :: S :: news.map (·.1)) (c₀ := ⟨[], 0, []⟩) rfl (.head _) hI F2 N2 ?_ (fun _ => rfl) ⟨rfl, fun _ h => nomatch h⟩ (fun _ h => nomatch h) rfl ?_ ?_
  · intro q hq
    simp only [List.append_nil, List.cons_append, List.nil_append, List.mem_cons] at hq ⊢
    rcases hq with h | h | h | h | h | h <;> simp [h]
  · intro c tl pre post n t u h tk own e hmem sep hoff hFacts hPre F3 N3
    obtain ⟨cc, hcc, hnum⟩ : ∃ cc ∈ σ, cc.num = n := by
      have := hP.mem_iff.mp hmem
      simp only [kvM, List.map_map, List.mem_map, Function.comp] at this
      exact this
    subst hnum
    have hRD : ∀ q ∈ ((B2, listOf (List.toArray vs) c2) :: (M, instObj 236 dM) :: (dM, mirD w t1 t2 tm S nM) :: (S, oS) :: news) ++ (tl ++ own), q.1 ≠ D := by
      intro q hq
      rcases List.mem_append.mp hq with hq | hq
      · simp only [List.mem_cons] at hq
        rcases hq with rfl | rfl | rfl | rfl | hq
        · exact Nat.ne_of_gt l2.1
        · exact Nat.ne_of_lt l1.1
        · exact Nat.ne_of_lt l1.2.1
        · exact Nat.ne_of_lt l1.2.2.1
        · exact Nat.ne_of_lt (allLt_mem l1.2.2.2 q hq)
      · exact hoff q hq D (.head _)
    generalize hR : ((B2, listOf (List.toArray vs) c2) :: (M, instObj 236 dM) :: (dM, mirD w t1 t2 tm S nM) :: (S, oS) :: news) ++ (tl ++ own) = R at hRD N3
    have hsub : ∀ q ∈ news, q ∈ R := fun q hq => hR ▸ List.mem_append_left _ (by simp [hq])
    have hmemc : ∀ q ∈ cc.led3 w, q ∈ news := fun q hq => hm q (by simp only [List.mem_cons]; exact .inr (.inr (.inr (ledM_mem hcc q hq))))
    have N4 : News _ _ h ((D, listOf (List.toArray c.acc) c.n) :: (M, instObj 236 dM) :: (dM, mirD w t1 t2 tm S nM) :: (S, oS) :: (cc.inst, instObj 161 cc.dict) :: (cc.dict, sesD w cc) :: (cc.src, cc.so) :: R) := ledger_sub N3 (by
      intro q hq
      simp only [List.mem_cons, List.cons_append, List.nil_append] at hq ⊢
      rcases hq with h | h | h | h | h | h | h | h
      · exact .inl h
      · exact .inr (hsub q (hm q (by simp [h])))
      · exact .inr (hsub q (hm q (by simp [h])))
      · exact .inr (hsub q (hm q (by simp [h])))
      · exact .inr (hsub q (hmemc q (by simp [h, Ses.led3])))
      · exact .inr (hsub q (hmemc q (by simp [h, Ses.led3])))
      · exact .inr (hsub q (hmemc q (by simp [h, Ses.led3])))
      · exact .inr h)
    have hRD' : ∀ q ∈ (M, instObj 236 dM) :: (dM, mirD w t1 t2 tm S nM) :: (S, oS) :: (cc.inst, instObj 161 cc.dict) :: (cc.dict, sesD w cc) :: (cc.src, cc.so) :: R, q.1 ≠ D := by
      intro q hq
      simp only [List.mem_cons] at hq
      rcases hq with h | h | h | h | h | h | h
      · exact hRD q (hsub q (hm q (by simp [h])))
      · exact hRD q (hsub q (hm q (by simp [h])))
      · exact hRD q (hsub q (hm q (by simp [h])))
      · exact hRD q (hsub q (hmemc q (by simp [h, Ses.led3])))
      · exact hRD q (hsub q (hmemc q (by simp [h, Ses.led3])))
      · exact hRD q (hsub q (hmemc q (by simp [h, Ses.led3])))
      · exact hRD q h
    have hfR : ∀ q ∈ f.led w, q ∈ (M, instObj 236 dM) :: (dM, mirD w t1 t2 tm S nM) :: (S, oS) :: (cc.inst, instObj 161 cc.dict) :: (cc.dict, sesD w cc) :: (cc.src, cc.so) :: R := fun q hq => by
      simp only [List.mem_cons]
      exact .inr (.inr (.inr (.inr (.inr (.inr (hsub q (hf q hq)))))))
    obtain ⟨hso, -, -, htxt, hvl, hlo, -, hlen, -⟩ := ok cc hcc
    have hvl' : cc.vl = .none ∨ ∃ v t, cc.vl = .int v t := by
      rcases hvl with ⟨h1, _⟩ | ⟨v, t, _, h1, _⟩
      · exact .inl h1
      · exact .inr ⟨v, t, h1⟩
    have hhit : hitOf σ port way cc.num = if takesB cc port way = true then some cc else none := by
      unfold hitOf
      rw [find_nodup Ses.num σ hn cc hcc]
      by_cases h : takesB cc port way = true
      · rw [if_pos h]; simp [Option.filter, h]
      · rw [if_neg h]; simp [Option.filter, h]
    have hacc : c.acc.length ≤ 1000 := by
      rw [hFacts.1, List.length_map, ← List.length_map (f := Cp.c), hPre]
      have h1 := List.length_filterMap_le (hitOf σ port way) pre
      have h2 : ns.length = σ.length := by rw [hP.length_eq]; simp [kvM]
      rw [e, List.length_append] at h2
      omega
    have hstep : (pre ++ [cc.num]).filterMap (hitOf σ port way) = pre.filterMap (hitOf σ port way) ++ (if takesB cc port way = true then [cc] else []) := by
      rw [List.filterMap_append]
      congr 1
      simp only [List.filterMap_cons, List.filterMap_nil, hhit]
      by_cases h : takesB cc port way = true <;> simp [h]
    clear N3 N2 N1 N
    cases hval : valueAt cc.kv port with
    | none =>
      k_steps
      refine kd_end c [] sep (by assumption) (by assumption) ?_ ?_ rfl (fun _ h => nomatch h) (fun _ h => nomatch h) (fun _ h => nomatch h) ?_ hFacts ?_
      · intro q hq
        simp only [List.cons_append, List.nil_append] at hq
        rcases List.mem_cons.mp hq with rfl | hq
        · exact .head _
        · exact mem7 (hR ▸ (by simp only [List.cons_append, List.mem_cons, List.mem_append] at hq ⊢; rcases hq with h | h | h | h | h | h <;> simp [h]))
      · exact fun q hq => mem7 (hR ▸ List.mem_append_right _ (List.mem_append_right _ hq))
      · intro z hz _ hs
        exact stored_back hz hs
      · rw [hstep, hPre, if_neg (by simp [takesB, hval])]; simp
    | some vv =>
      obtain ⟨x, tx, rfl⟩ : ∃ x tx, vv = .str x tx := by
        unfold valueAt at hval
        cases hfi : cc.kv.find? fun p => p.1 = port with
        | none => rw [hfi] at hval; cases hval
        | some pr =>
          rw [hfi] at hval
          cases hval
          exact htxt pr (List.mem_of_find?_eq_some hfi)
      k_steps
      · rename_i hTest g2 tkk f' add hlt hled hcop hod T h5 F5 N5 hl h6 F6 N6
        have hTall : ∀ q ∈ add ++ ((M, instObj 236 dM) :: (dM, mirD w t1 t2 tm S nM) :: (S, oS) :: (cc.inst, instObj 161 cc.dict) :: (cc.dict, sesD w cc) :: (cc.src, cc.so) :: R), q.1 < T := allLt_mem hl.2
        have hbase : ∀ b ∈ D :: B2 :: M :: dM :: S :: news.map (·.1), b = D ∨ ∃ o, (b, o) ∈ R := by
          intro b hb
          simp only [List.mem_cons, List.mem_map] at hb
          rcases hb with h | h | h | h | h | ⟨q, hq, h⟩
          · exact .inl h
          · exact .inr ⟨_, hR ▸ List.mem_append_left _ (by rw [h]; exact .head _)⟩
          · exact .inr ⟨_, hR ▸ List.mem_append_left _ (by rw [h]; exact .tail _ (.head _))⟩
          · exact .inr ⟨_, hR ▸ List.mem_append_left _ (by rw [h]; exact .tail _ (.tail _ (.head _)))⟩
          · exact .inr ⟨_, hR ▸ List.mem_append_left _ (by rw [h]; exact .tail _ (.tail _ (.tail _ (.head _))))⟩
          · exact .inr ⟨q.2, h ▸ hsub q hq⟩
        refine kd_end ⟨c.acc ++ [.ref T], c.n + 1, c.cps ++ [⟨cc, T, f'⟩]⟩ ((T, tupO [.int cc.goal cc.gt, .ref f'.inst]) :: add) sep (by assumption) N6 ?_ ?_ rfl ?_ ?_ (fun _ h => nomatch h) ?_ ?_ ?_
        · intro q hq
          simp only [List.cons_append, List.nil_append, List.mem_cons, List.mem_append] at hq
          rcases hq with h | h | h | h | h | h | h | h | h
          · exact .tail _ (by rw [h]; exact .head _)
          · exact memA7 (hR ▸ List.mem_append_left _ (by rw [h]; exact .head _))
          · exact memA7 (hR ▸ List.mem_append_left _ (by rw [h]; exact .tail _ (.head _)))
          · exact memA7 (hR ▸ List.mem_append_left _ (by rw [h]; exact .tail _ (.tail _ (.head _))))
          · exact memA7 (hR ▸ List.mem_append_left _ (by rw [h]; exact .tail _ (.tail _ (.tail _ (.head _)))))
          · exact memA7 (hsub q h)
          · rw [h]; exact .head _
          · exact .tail _ (.tail _ (List.mem_append_left _ h))
          · exact memA7 (hR ▸ List.mem_append_right _ (List.mem_append_left _ h))
        · exact fun q hq => memA7 (hR ▸ List.mem_append_right _ (List.mem_append_right _ hq))
        · intro q hq b hb
          rcases List.mem_cons.mp hq with rfl | hq
          · rcases hbase b hb with rfl | ⟨o, ho⟩
            · exact Nat.ne_of_lt hl.1
            · exact Nat.ne_of_lt (hTall _ (List.mem_append_right _ (mem6 ho)))
          · rcases hbase b hb with rfl | ⟨o, ho⟩
            · exact Nat.ne_of_lt (hlt q hq _ (.head _))
            · exact Nat.ne_of_lt (hlt q hq _ (.tail _ (mem6 ho)))
        · intro q hq p hp
          have hpR : p ∈ R := hR ▸ List.mem_append_right _ (List.mem_append_right _ hp)
          rcases List.mem_cons.mp hq with rfl | hq
          · exact Nat.ne_of_lt (hTall _ (List.mem_append_right _ (mem6 hpR)))
          · exact Nat.ne_of_lt (hlt q hq _ (.tail _ (mem6 hpR)))
        · intro z hz _ hs
          exact stored_back hz hs
        · have hold : ∀ q ∈ ((B2, listOf (List.toArray vs) c2) :: (M, instObj 236 dM) :: (dM, mirD w t1 t2 tm S nM) :: (S, oS) :: news) ++ tl, q ∈ ((B2, listOf (List.toArray vs) c2) :: (M, instObj 236 dM) :: (dM, mirD w t1 t2 tm S nM) :: (S, oS) :: news) ++ ((T, tupO [.int cc.goal cc.gt, .ref f'.inst]) :: add ++ tl) := fun q hq => kd_sub q hq
          refine ⟨?_, ?_⟩
          · simp only [hFacts.1, List.map_append, List.map_cons, List.map_nil]
          · intro cp hcp
            rcases List.mem_append.mp hcp with hcp | hcp
            · exact (hFacts.2 cp hcp).mono hold
            · rw [List.mem_singleton.mp hcp]
              refine ⟨kd_new (.head _), ?_, hcop⟩
              intro q hq
              have := hled q hq
              rcases List.mem_append.mp this with h | h
              · exact kd_new (.tail _ h)
              · exact hold q (List.mem_append_left _ (by simp [hf q h]))
        · show List.map Cp.c (c.cps ++ [({ c := cc, tup := T, f := f' } : Cp)]) = _
          rw [hstep, List.map_append, hPre, if_pos (by simpa [takesB, hval] using hTest)]
          rfl
      · rename_i hTest
        refine kd_end c [] sep (by assumption) (by assumption) ?_ ?_ rfl (fun _ h => nomatch h) (fun _ h => nomatch h) (fun _ h => nomatch h) ?_ hFacts ?_
        · intro q hq
          simp only [List.cons_append, List.nil_append] at hq
          rcases List.mem_cons.mp hq with rfl | hq
          · exact .head _
          · exact mem7 (hR ▸ (by simp only [List.cons_append, List.mem_cons, List.mem_append] at hq ⊢; rcases hq with h | h | h | h | h | h <;> simp [h]))
        · exact fun q hq => mem7 (hR ▸ List.mem_append_right _ (List.mem_append_right _ hq))
        · intro z hz _ hs
          exact stored_back hz hs
        · rw [hstep, hPre, if_neg (by simpa [takesB, hval] using hTest)]; simp
  · intro c tl u h tk ht hFacts hPre F3 N3
    k_steps
    refine hret _ _ D c.acc c.n c.cps ns ((B2, listOf (List.toArray vs) c2) :: tl) (by assumption) (ledger_sub (by assumption) ?_) ?_ ?_ hFacts.1 ?_ (by rw [kvM, List.map_map] at hP; exact hP) hO hPre
    · intro q hq
      simp only [List.cons_append, List.nil_append, List.mem_cons, List.mem_append] at hq ⊢
      rcases hq with h | h | h | h
      · exact .inl h
      · exact .inr (.inl h)
      · exact .inr (.inr (.inr (.inr (.inr (.inr h)))))
      · exact .inr (.inr (.inr (.inr (.inr (.inl h)))))
    · intro q hq
      simp only [List.cons_append, List.mem_cons, List.mem_append] at hq
      rcases hq with h | h | h
      · rw [h]; exact Nat.ne_of_gt l2.1
      · exact ht q h D (.head _)
      · exact Nat.ne_of_lt (allLt_mem l1.2.2.2 q h)
    · intro q hq p hp
      rcases List.mem_cons.mp hq with rfl | hq
      · exact Nat.ne_of_gt (allLt_mem l2.2.2.2.2 p hp)
      · exact ht q hq p.1 (by simp only [List.mem_cons, List.mem_map]; exact .inr (.inr (.inr (.inr (.inr ⟨p, hp, rfl⟩)))))
    · intro cp hcp
      refine (hFacts.2 cp hcp).mono fun q hq => ?_
      simp only [List.cons_append, List.mem_cons, List.mem_append] at hq ⊢
      rcases hq with h | h | h | h | h | h
      · exact .inl h
      · exact .inr (.inr (hm q (by simp [h])))
      · exact .inr (.inr (hm q (by simp [h])))
      · exact .inr (.inr (hm q (by simp [h])))
      · exact .inr (.inr h)
      · exact .inr (.inl h)

end
end Mine
end

section
open PySem PySem.W PyProof.Rows PySem.Calls PyProof.Rows.LCg PyProof.Rows.LCt
set_option Elab.async false
set_option maxRecDepth 100000
set_option maxHeartbeats 8000000
namespace Mine
theorem lnQ4_0 : True := by
  k_with_none
  w_top off
  k_with "pk" => first | exact pk1 | exact pk2 | exact pk3 | exact pk4 | (refine pkS ?_; k_extra "pk")
  k_with "ne" => (refine neN ?_; (try dsimp only); with_reducible first | assumption | exact .symm (by assumption) | exact pk2 (by assumption) | exact pk4 (by assumption) | (refine pkH (by assumption) ?_; k_extra "pk") | (refine pkL (by assumption) ?_; k_extra "pk") | fail)
  k_with "room" => first | exact rmA (by assumption) rfl | exact rmB (by assumption) rfl | exact rmC (by assumption) rfl | fail
  trivial
section
variable {prog : Program} {w : World} {p : Program} {loose : List Str} {mean : ExcName → Option Value} {mg mb : Str → Option Value} {dp un : Nat} {gd : Option (List Code)} {cn : Str} {cs : Scope} {a : Addr} {ccd : Value} {cl : List (Str × Addr)} {outer : List Env} {A₀ : Around} {base h₀ : Heap} {L : Addr} {m : Str → Option Value} {s : Shared} {Q E : Value → Shared → Prop} {news : List (Addr × Obj)}


theorem lnQ4_1 : True := by
  k_with "exec Raise some none" => (k_here; k_dflt (refine raise_own (by rfl) ?_))
  k_with "call ref" => (k_here; (with_reducible show wpAny _ _ (call (Value.ref 51) _) _ _ _); (refine' exc_make ?BQ185 ?FQ185 ?XQ185 ?NQ185 ?TQ185 ?kQ185 ?dQ185 ?uQ185 ?_; (case BQ185 => k_asm); (case FQ185 => k_asm); (case XQ185 => k_asm); (case NQ185 => k_asm); (case TQ185 => k_asm); (case kQ185 => first | exact rfl | assumption); (case dQ185 => ktr_room); (case uQ185 => ktr_units)); intro h' tk' e' t1' d1' F' N' o1' o2' o3'; revert h' tk' e' t1' d1' F' N' o1' o2' o3'; intro _ _ _ _ _ _ _ _ _ _)
  k_with "RaisableX" => (k_here; refine ⟨_, _, _, rfl, (‹News _ _ _ ((_, excOd _ _) :: _)› _ (.head _)).1, rfl, rfl, rfl, Frag.In.keeps (by k_asm) (Fr.keep (by k_asm)), ?_⟩)
  k_with "leaving ref" => (k_here; (refine' leave_raiseZ ?BQ187 ?FQ187 ?NQ187 ?o1Q187 ?o2Q187 ?o3Q187 ?_; (case BQ187 => k_asm); (case FQ187 => k_asm); (case NQ187 => k_asm); (case o1Q187 => assumption); (case o2Q187 => assumption); (case o3Q187 => assumption)); intro h' R' U'; (try dsimp only at R' U' ⊢); revert h' R' U'; intro _ _ _)
  trivial



theorem lnQ4_2 : True := by
  k_with "compareOp In int ref" => (k_here; (refine' kda_in (knd := PySem.intKind _ _) ?NQ188 ?hQ188 ?dQ188 ?lQ188 (intKind_is _ _ _ _) _ ?bQ188 ?_; (case NQ188 => k_asm); (case hQ188 => k_mem); (case dQ188 => k_asm); (case lQ188 => assumption); (case bQ188 => exact rfl); k_whole))
  k_with "call builtin:len" => (k_here; (with_reducible show wpAny _ _ (call (Value.builtin "len") [Value.ref _]) _ _ _); k_dflt (refine kda_len (knd := PySem.intKind _ _) (by k_asm) (by k_mem) (by k_asm) (by k_asm) (by rw [List.length_map]; omega) ?_))
  k_with "call ref" => (k_here; (with_reducible show wpAny _ _ (call (Value.ref 185) _) _ _ _); (refine' is_goal_spec ?BQ190 ?FQ190 ?XQ190 ?NQ190 ?TQ190 ?kQ190 ?mQ190 ?dQ190 ?uQ190 ?SQ190 ?lQ190 ?nQ190 ?lenQ190 ?_; (case BQ190 => k_asm); (case FQ190 => k_asm); (case XQ190 => k_asm); (case NQ190 => k_asm); (case TQ190 => k_asm); (case kQ190 => first | exact rfl | assumption); (case SQ190 => assumption); (case mQ190 => assumption); (case dQ190 => ktr_room); (case uQ190 => ktr_units); (case lQ190 => assumption); (case nQ190 => assumption); (case lenQ190 => assumption)); intro h' tk' F' N'; revert h' tk' F' N'; intro _ _ _ _)
  k_with "call ref" => (k_here; (with_reducible show wpAny _ _ (call (Value.ref 190) _) _ _ _); (refine' is_source_spec ?BQ191 ?FQ191 ?XQ191 ?NQ191 ?TQ191 ?kQ191 ?mQ191 ?dQ191 ?uQ191 ?SQ191 ?lQ191 ?nQ191 ?lenQ191 ?okQ191 ?_; (case BQ191 => k_asm); (case FQ191 => k_asm); (case XQ191 => k_asm); (case NQ191 => k_asm); (case TQ191 => k_asm); (case kQ191 => first | exact rfl | assumption); (case SQ191 => assumption); (case mQ191 => assumption); (case dQ191 => ktr_room); (case uQ191 => ktr_units); (case lQ191 => assumption); (case nQ191 => assumption); (case lenQ191 => assumption); (case okQ191 => assumption)); intro h' tk' F' N'; revert h' tk' F' N'; intro _ _ _ _)
  k_with "call ref" => (k_here; (with_reducible show wpAny _ _ (call (Value.ref 161) _) _ _ _); k_dflt ((refine' call_cls ?k1Q192 ?k2Q192 ?k3Q192 ?k4Q192 ?k5Q192 ?k6Q192 ?_; (case k1Q192 => k_asm); (case k2Q192 => k_asm); (case k3Q192 => k_asm); (case k4Q192 => k_is); (case k5Q192 => k_is); (case k6Q192 => k_is); k_whole; intro x' d' h' F' N' l1 l2; (try k_lt l1); (try k_lt2 l2); (try k_sweep); revert x' d' h' F' N' l1 l2; intro _ _ _ _ _ _ _); (refine' code_def ?k1Q194 ?k2Q194 ?k3Q194 ?k4Q194 ?k5Q194 ?kAQ194 ?kFQ194 ?kKQ194 ?k6Q194 ?k7Q194 ?k8Q194 ?k9Q194 ?kBQ194 ?_ ?c2Q194 ?c3Q194 ?c4Q194 ?c5Q194; (case kAQ194 => exact rfl); (case kFQ194 => exact rfl); (case kKQ194 => first | exact rfl | assumption); (case k1Q194 => k_asm); (case k2Q194 => k_asm); (case k3Q194 => k_asm); (case k4Q194 => k_asm); (case k5Q194 => k_asm); (case k6Q194 => k_is); (case k7Q194 => k_is); (case k8Q194 => ktr_room); (case k9Q194 => first | exact binds_K (by k_in) rfl (by k_is) rfl rfl rfl | exact BindsTo.of_eq rfl); (case c5Q194 => decide); (case kBQ194 => exact locs rfl); (case c2Q194 => exact rfl); (case c3Q194 => exact rfl); (case c4Q194 => exact rfl); k_whole; intro g' L' h' FG' F' N' B' X' T'; (try dsimp only); (try k_fold); revert g' L' h' FG' F' N' B' X' T'; intro _ _ _ _ _ _ _ _ _)))
  k_with "setItem ref int" => (k_here; k_dflt (refine' kda_set (knd := PySem.intKind _ _) ?FQ193 ?NQ193 ?UQ193 ?dQ193 (intKind_is _ _ _ _) ?zQ193 ?_; (case FQ193 => k_asm); (case NQ193 => k_asm); (case UQ193 => k_updF); (case dQ193 => k_asm); (case zQ193 => rw [sizeLine_eq, List.length_map]; omega)); intro h' o' F' N' hd'; (try dsimp only at N'); revert h' o' F' N' hd'; intro _ _ _ _ _)
  trivial
theorem make_spec3 {M dM S : Addr} {oS : Obj} {t1 t2 tm : Tok} {nM : Nat} {σ : List Ses} {num goal : Int} {tn tg : Tok} {rest : List (Addr × Obj)}
    (B : Below A₀ base outer h₀) (F : Fr h₀ L s.heap m) (X : (pre.heap_1 w.params).In h₀) (N0 : News h₀ L s.heap ((S, oS) :: rest)) (T : Top p loose mean mg mb h₀) (hk : cs.kind = .function)
    (hoff : ∀ q ∈ rest, q.1 ≠ S)
    (hm : ∀ q ∈ (M, instObj 236 dM) :: (dM, mirD w t1 t2 tm S nM) :: ledS w σ, q ∈ rest)
    (hd : dp + 240 < recursionLimit) (hu : un + 200 < cLine) (hS : oS.IsDictOf (intKind prog w) (kvM σ)) (lo : (S == sysModules) = false) (hn : (σ.map (·.num)).Nodup) (hl : σ.length ≤ 3) (ok : ∀ c ∈ σ, c.Ok prog w)
    (hret : MakeOk σ num goal → ∀ h' tk inst d src so oS' s1 s2 s3 n1, Fr h₀ L h' m → News h₀ L h' ((S, oS') :: (inst, instObj 161 d) :: (d, dictOf [⟨PyData.keyHash w.params (Str.ofString "goal"), .str (Str.ofString "goal") s1, .int goal tg⟩, ⟨PyData.keyHash w.params (Str.ofString "vlan"), .str (Str.ofString "vlan") s2, .none⟩, ⟨PyData.keyHash w.params (Str.ofString "sources"), .str (Str.ofString "sources") s3, .ref src⟩] n1) :: (src, so) :: rest) →
      oS'.IsDictOf (intKind prog w) (stored (kvM σ) num (.ref inst)) → so.IsDictOf (intKind prog w) [] → (src == sysModules) = false → (∀ q ∈ (S, oS) :: rest, q.1 < d) → d < inst → inst < src → Q .none { s with heap := h', toks := tk })
    (hraise : ¬ MakeOk σ num goal → ∀ G h' tk e t vs, Fr h₀ L G m → RaisedS base G (envX cn cs L a ccd cl :: outer) e (.ref 51) t vs ((S, oS) :: rest) h' → G.UpToSlots h' → E (.ref e) { s with heap := h', toks := tk }) :
    wpAny (model prog w) (ktrTop dp un gd cn cs L a ccd cl outer) (call (.ref 198) [.ref M, .int num tn, .int goal tg]) Q E s := by
  have N : News h₀ L s.heap ((M, instObj 236 dM) :: (dM, mirD w t1 t2 tm S nM) :: (S, oS) :: rest) := ledger_sub N0 (by
    intro q hq
    simp only [List.mem_cons] at hq ⊢
    rcases hq with h | h | h | h
    · right; rw [h]; exact hm _ (.head _)
    · right; rw [h]; exact hm _ (.tail _ (.head _))
    · left; exact h
    · right; exact h)
  have hMS : M ≠ S := hoff _ (hm _ (.head _))
  have hdS : dM ≠ S := hoff _ (hm _ (.tail _ (.head _)))
  have hm' : ∀ q ∈ (M, instObj 236 dM) :: (dM, mirD w t1 t2 tm S nM) :: (S, oS) :: ledS w σ, q ∈ (M, instObj 236 dM) :: (dM, mirD w t1 t2 tm S nM) :: (S, oS) :: rest := by
    intro q hq
    simp only [List.mem_cons] at hq ⊢
    rcases hq with h | h | h | h
    · exact .inl h
    · exact .inr (.inl h)
    · exact .inr (.inr (.inl h))
    · exact .inr (.inr (.inr (hm _ (.tail _ (.tail _ h)))))
  refine wpAny_call ?_
  k_dflt (refine' code_def ?k1Q195 ?k2Q195 ?k3Q195 ?k4Q195 ?k5Q195 ?kAQ195 ?kFQ195 ?kKQ195 ?k6Q195 ?k7Q195 ?k8Q195 ?k9Q195 ?kBQ195 ?_ ?c2Q195 ?c3Q195 ?c4Q195 ?c5Q195; (case kAQ195 => exact rfl); (case kFQ195 => exact rfl); (case kKQ195 => first | exact rfl | assumption); (case k1Q195 => k_asm); (case k2Q195 => k_asm); (case k3Q195 => k_asm); (case k4Q195 => k_asm); (case k5Q195 => k_asm); (case k6Q195 => k_is); (case k7Q195 => k_is); (case k8Q195 => ktr_room); (case k9Q195 => first | exact binds_K (by k_in) rfl (by k_is) rfl rfl rfl | exact BindsTo.of_eq rfl); (case c5Q195 => decide); (case kBQ195 => exact locs rfl); (case c2Q195 => exact rfl); (case c3Q195 => exact rfl); (case c4Q195 => exact rfl); k_whole; intro g' L' h' FG' F' N' B' X' T'; (try dsimp only); (try k_fold); revert g' L' h' FG' F' N' B' X' T'; intro _ _ _ _ _ _ _ _ _)
  k_steps
  all_goals (try simp only [kvM, List.length_map] at *)
  all_goals first
    | (refine hraise ?_ _ _ _ _ _ _ (by assumption) (raised_sub (by assumption) (by intro q hq; rcases List.mem_cons.mp hq with rfl | hq; (· simp); (· simp [hq]))) (by assumption); (intro hok; obtain ⟨q1, q2, q3, q4⟩ := hok; first | omega | simp_all))
    | (refine hret ⟨by assumption, by omega, by assumption, by assumption⟩ _ _ _ _ _ _ _ _ _ _ _ (by assumption) (make_ledger (by assumption)) (by assumption) (by assumption) (by assumption) ?_ (by assumption) ?_)
  · rename (_ ∧ _ ∧ _ ∧ AllLt _ rest) => hlt
    intro q hq
    rcases List.mem_cons.mp hq with rfl | hq
    · exact hlt.2.2.1
    · exact allLt_mem hlt.2.2.2 q hq
  · rename (_ ∧ _ ∧ _ ∧ _ ∧ _ ∧ AllLt _ rest) => hlt
    exact hlt.1

end
end Mine
end

section
open PySem PySem.W PyProof.Rows PySem.Calls PyProof.Rows.LCg PyProof.Rows.LCt
set_option Elab.async false
set_option maxRecDepth 100000
set_option maxHeartbeats 4000000
namespace Mine
theorem lnQ5_0 : True := by
  k_with_none
  w_top off
  k_with "pk" => first | exact pk1 | exact pk2 | exact pk3 | exact pk4 | (refine pkS ?_; k_extra "pk")
  k_with "ne" => (refine neN ?_; (try dsimp only); with_reducible first | assumption | exact .symm (by assumption) | exact pk2 (by assumption) | exact pk4 (by assumption) | (refine pkH (by assumption) ?_; k_extra "pk") | (refine pkL (by assumption) ?_; k_extra "pk") | fail)
  k_with "room" => first | exact rmA (by assumption) rfl | exact rmB (by assumption) rfl | exact rmC (by assumption) rfl | fail
  trivial
section
variable {prog : Program} {w : World} {p : Program} {loose : List Str} {mean : ExcName → Option Value} {mg mb : Str → Option Value} {dp un : Nat} {gd : Option (List Code)} {cn : Str} {cs : Scope} {a : Addr} {ccd : Value} {cl : List (Str × Addr)} {outer : List Env} {A₀ : Around} {base h₀ : Heap} {L : Addr} {m : Str → Option Value} {s : Shared} {Q E : Value → Shared → Prop} {news : List (Addr × Obj)}
theorem ses_packed {h : Heap} {S inst d src : Addr} {oS so : Obj} {num goal : Int} {tg s1 s2 s3 : Tok} {n1 : Nat} {rest : List (Addr × Obj)} (N : News h₀ L h ((S, oS) :: (inst, instObj 161 d) :: (d, dictOf [⟨PyData.keyHash w.params (Str.ofString "goal"), .str (Str.ofString "goal") s1, .int goal tg⟩, ⟨PyData.keyHash w.params (Str.ofString "vlan"), .str (Str.ofString "vlan") s2, .none⟩, ⟨PyData.keyHash w.params (Str.ofString "sources"), .str (Str.ofString "sources") s3, .ref src⟩] n1) :: (src, so) :: rest))
    (h1 : so.IsDictOf (intKind prog w) []) (h2 : (src == sysModules) = false) :
    ∃ c : Ses, c.inst = inst ∧ c.dict = d ∧ c.src = src ∧ c.num = num ∧ c.goal = goal ∧ c.kv = [] ∧ c.Ok prog w ∧ News h₀ L h ((c.src, c.so) :: (S, oS) :: (c.inst, instObj 161 c.dict) :: (c.dict, sesD w c) :: rest) :=
  ⟨newSes num goal tg .none inst d src 0 src so so s1 s2 s3 n1, rfl, rfl, rfl, rfl, rfl, rfl, newSes_ok h1 h1 (.inl rfl) h2 h2, ledger_sub N (by (repeat (refine List.forall_mem_cons.mpr ⟨(by repeat (first | exact List.Mem.head _ | refine List.Mem.tail _ ?_)), ?_⟩)); (first | exact List.forall_mem_nil _ | (intro q hq; repeat (first | exact hq | refine List.Mem.tail _ ?_))))⟩
theorem upd_packed {h : Heap} {c : Ses} {so : Obj} {port : Int} {x : Str} {t : Tok} {rest : List (Addr × Obj)} (N : News h₀ L h ((c.src, so) :: rest)) (ok : c.Ok prog w) (hkv : c.kv = []) (h1 : so.IsDictOf (intKind prog w) (stored c.kv port (.str x t))) :
    ∃ c2 : Ses, c2.inst = c.inst ∧ c2.dict = c.dict ∧ c2.src = c.src ∧ sesD w c2 = sesD w c ∧ c2.num = c.num ∧ c2.goal = c.goal ∧ c2.kv = [(port, .str x t)] ∧ c2.Ok prog w ∧ News h₀ L h ((c2.src, c2.so) :: rest) := by
  rw [hkv] at h1
  have e : stored ([] : List (Int × Value)) port (.str x t) = [(port, .str x t)] := by simp [stored]
  rw [e] at h1
  exact ⟨{ c with kv := [(port, .str x t)], kv2 := [(port, .str x t)], so := so, so2 := so, src2 := c.src }, rfl, rfl, rfl, rfl, rfl, rfl, rfl,
    ⟨h1, h1, rfl, (fun q hq => by rw [List.mem_singleton.mp hq]; exact ⟨_, _, rfl⟩), ok.vlan, ok.lo, ok.lo, by simp, by simp⟩, N⟩
theorem ledM_one {c : Ses} : ledM w [c] = c.led3 w := by simp [ledM]
theorem add_okN {M dM S : Addr} {oS : Obj} {t1 t2 tm : Tok} {nM : Nat} {σ : List Ses} {c : Ses} {num : Int} {tn : Tok} {port : Int} {tp : Tok} {way : Str} {tw : Tok} {rest : List (Addr × Obj)}
    (B : Below A₀ base outer h₀) (F : Fr h₀ L s.heap m) (X : (pre.heap_1 w.params).In h₀) (N0 : News h₀ L s.heap ((c.src, c.so) :: rest)) (T : Top p loose mean mg mb h₀) (hk : cs.kind = .function) (hnum : c.num = num)
    (hoff : ∀ q ∈ rest, q.1 ≠ c.src) (hoff5 : ∀ q ∈ [(M, instObj 236 dM), (dM, mirD w t1 t2 tm S nM), (S, oS), (c.inst, instObj 161 c.dict), (c.dict, sesD w c)], q.1 ≠ c.src)
    (hm : ∀ q ∈ (M, instObj 236 dM) :: (dM, mirD w t1 t2 tm S nM) :: (S, oS) :: ledM w σ, q ∈ (c.src, c.so) :: rest)
    (hd : dp + 240 < recursionLimit) (hu : un + 200 < cLine) (hS : oS.IsDictOf (intKind prog w) (kvM σ)) (lo : (S == sysModules) = false) (hn : (σ.map (·.num)).Nodup) (hl : σ.length ≤ 3) (ok : ∀ c ∈ σ, c.Ok prog w) (hc : c ∈ σ)
    (good : waysL.any (· == way) = true ∧ (σ.any fun c => c.goal = port) = false)
    (hret : ∀ h' tk so' v', Fr h₀ L h' m → News h₀ L h' ((c.src, so') :: rest) → so'.IsDictOf (intKind prog w) (stored c.kv port (.str way tw)) → Q v' { s with heap := h', toks := tk }) :
    wpAny (model prog w) (ktrTop dp un gd cn cs L a ccd cl outer) (call (.ref 212) [.ref M, .int num tn, .int port tp, .str way tw]) Q E s := by
  subst hnum
  exact add_okM B F X N0 T hk hoff hoff5 hm hd hu hS lo hn hl ok hc good hret
theorem one_copy {c : Ses} {port : Int} {way x : Str} {t : Tok} {ns : List Int} {cps : List Cp} (hp : ns.Perm ([c].map (·.num))) (hkv : c.kv = [(port, .str x t)]) (hx : [way, Str.ofString "both"].any (· == x) = true) (h : cps.map (·.c) = ns.filterMap (hitOf [c] port way)) : ∃ cp, cps = [cp] ∧ cp.c = c := by
  have e : ns = [c.num] := List.perm_singleton.mp hp
  rw [e] at h
  have e1 : valueAt c.kv port = some (.str x t) := by
    rw [hkv]
    unfold valueAt
    rw [List.find?_cons_of_pos (by exact decide_eq_true rfl)]
    rfl
  have e0 : takesB c port way = true := by
    unfold takesB
    rw [e1]
    exact hx
  have e2 : hitOf [c] port way c.num = some c := by
    rw [hit_at (σ := [c]) (port := port) (way := way) (by simp) (.head _), if_pos e0]
  rw [List.filterMap_cons, e2, List.filterMap_nil] at h
  cases cps with
  | nil => cases h
  | cons cp r =>
    rw [List.map_cons] at h
    obtain ⟨h1, h2⟩ := List.cons.inj h
    have h3 : r = [] := List.map_eq_nil_iff.mp h2
    subst h3
    exact ⟨cp, rfl, h1⟩
theorem start_kv {c : Ses} {k : Int} {o : Obj} (h : c.num = k) (d : o.IsDictOf (intKind prog w) (stored (kvM []) k (.ref c.inst))) : o.IsDictOf (intKind prog w) (kvM [c]) := by
  have e : stored (kvM []) k (.ref c.inst) = kvM [c] := by rw [kvM, kvM, List.map_singleton, h]; rfl
  rw [e] at d
  exact d
theorem led_up {h : Heap} {c c2 : Ses} {x y : Addr × Obj} {rest : List (Addr × Obj)} (N : News h₀ L h (x :: y :: (c.inst, instObj 161 c.dict) :: (c.dict, sesD w c) :: rest)) (h1 : c2.inst = c.inst) (h2 : c2.dict = c.dict) (h3 : sesD w c2 = sesD w c) : News h₀ L h (x :: y :: (c2.inst, instObj 161 c2.dict) :: (c2.dict, sesD w c2) :: rest) := by
  rw [h1, h2, h3]; exact N
theorem kv_up {c c2 : Ses} {o : Obj} (d : o.IsDictOf (intKind prog w) (kvM [c])) (h1 : c2.inst = c.inst) (h2 : c2.num = c.num) : o.IsDictOf (intKind prog w) (kvM [c2]) := by
  have e : kvM [c2] = kvM [c] := by rw [kvM, kvM, List.map_singleton, List.map_singleton, h1, h2]
  rw [e]; exact d
theorem led_three {h : Heap} {D T : Addr × Obj} {add : List (Addr × Obj)} {a1 a2 a3 a4 a5 a6 a7 a8 a9 x : Addr × Obj} (N : News h₀ L h (D :: (add ++ [a1, a2, a3, a4, a5, a6, a7, a8, a9, x]))) (hT : T ∈ add ++ [a1, a2, a3, a4, a5, a6, a7, a8, a9, x]) : News h₀ L h [D, T, x] := ledger_sub N (by
  intro q hq
  simp only [List.mem_cons, List.not_mem_nil, or_false] at hq
  rcases hq with rfl | rfl | rfl
  · exact .head _
  · exact .tail _ hT
  · exact .tail _ (List.mem_append_right _ (by simp)))
theorem law_packed {h : Heap} {M dM S O : Addr} {Dt st tb : Addr × Obj} {oS oO : Obj} {t1 t2 tm : Tok} {nM : Nat} {b1 b2 b3 b4 : Addr × Obj} (N : News h₀ L h [Dt, (O, oO), (S, oS), (M, instObj 236 dM), (dM, dictOf [⟨PyData.keyHash w.params (Str.ofString "most"), .str (Str.ofString "most") t1, .int 3 tm⟩, ⟨PyData.keyHash w.params (Str.ofString "sessions"), .str (Str.ofString "sessions") t2, .ref S⟩] nM), st, b1, b2, b3, b4, tb]) :
    ∃ M' dM' S' O' oS' oO' t1' t2' tm' nM', M' = M ∧ dM' = dM ∧ S' = S ∧ O' = O ∧ oS' = oS ∧ oO' = oO ∧ News h₀ L h [(M', instObj 236 dM'), (dM', mirD w t1' t2' tm' S' nM'), (S', oS'), (O', oO'), st, tb] :=
  ⟨M, dM, S, O, oS, oO, t1, t2, tm, nM, rfl, rfl, rfl, rfl, rfl, rfl, ledger_sub N (by (repeat (refine List.forall_mem_cons.mpr ⟨(by repeat (first | exact List.Mem.head _ | refine List.Mem.tail _ ?_)), ?_⟩)); (first | exact List.forall_mem_nil _ | (intro q hq; repeat (first | exact hq | refine List.Mem.tail _ ?_))))⟩
theorem small_range {d : Int} (h0 : 0 ≤ d) (h1 : d < 12) : ∃ n : Nat, Builtin.Range.small 0 (5 + d) 1 = true ∧ Builtin.Range.rangeSize 0 (5 + d) 1 = (n : Int) := by
  have key : ∀ k : Fin 12, Builtin.Range.small 0 (5 + ((k.val : Nat) : Int)) 1 = true ∧ Builtin.Range.rangeSize 0 (5 + ((k.val : Nat) : Int)) 1 = ((5 + k.val : Nat) : Int) := by decide +kernel
  have hlt : d.toNat < 12 := (Int.toNat_lt h0).mpr h1
  have e : ((d.toNat : Nat) : Int) = d := Int.toNat_of_nonneg h0
  have k1 := key ⟨d.toNat, hlt⟩
  dsimp only at k1
  rw [e] at k1
  exact ⟨_, k1.1, k1.2⟩
noncomputable def LawJ (prog : Program) (w : World) (M dM S O src : Addr) (t1 t2 tm : Tok) (nM : Nat) (m₀ m : Str → Option Value) (nx : List (Addr × Obj)) : Prop :=
  (∀ z, z ≠ Str.ofString "turn" → m z = m₀ z) ∧ ∃ σ oth ps oS oO x y tx ty n, nx = stLed w M dM S O src t1 t2 tm nM oS oO x y tx ty n ps σ oth ∧ Inv prog w M dM S O src oS oO ps σ oth ∧ 0 ≤ y ∧ y < 2147483647
theorem st_less {M dM S O src : Addr} {oS oO : Obj} {t1 t2 tm tx ty : Tok} {nM nn : Nat} {x y : Int} {ps : Array Value} {σ : List Ses} {newc oth keep : List (Addr × Obj)} : ∀ q ∈ stLed w M dM S O src t1 t2 tm nM oS oO x y tx ty nn ps σ (newc ++ oth), q ∈ stLed w M dM S O src t1 t2 tm nM oS oO x y tx ty nn ps σ (newc ++ (oth ++ keep)) := by
  intro q hq
  rw [← List.append_assoc, st_app]
  exact List.mem_append_left _ hq
theorem st_keep {M dM S O src : Addr} {oS oO : Obj} {t1 t2 tm tx ty : Tok} {nM nn : Nat} {x y : Int} {ps : Array Value} {σ : List Ses} {newc oth keep : List (Addr × Obj)} {q : Addr × Obj} (hq : q ∈ keep) : q ∈ stLed w M dM S O src t1 t2 tm nM oS oO x y tx ty nn ps σ (newc ++ (oth ++ keep)) := by
  rw [← List.append_assoc, st_app]
  exact List.mem_append_right _ hq
theorem turn_map {m₁ m₀ : Str → Option Value} {v : Value} (h : ∀ z, z ≠ Str.ofString "turn" → m₁ z = m₀ z) : (fun y => if y = Str.ofString "turn" then some v else m₁ y) = (fun y => if y = Str.ofString "turn" then some v else m₀ y) := by
  funext y
  by_cases e : y = Str.ofString "turn"
  · rw [if_pos e, if_pos e]
  · rw [if_neg e, if_neg e]; exact h y e
end
end Mine
end

section
open PySem PySem.W PyProof.Rows PySem.Calls PyProof.Rows.LCg PyProof.Rows.LCt
set_option Elab.async false
set_option maxRecDepth 100000
set_option maxHeartbeats 4000000
namespace Mine
theorem lnL5_0 : True := by
  k_with_none
  w_top off
  k_with "pk" => first | exact pk1 | exact pk2 | exact pk3 | exact pk4 | (refine pkS ?_; k_extra "pk")
  k_with "ne" => (refine neN ?_; (try dsimp only); with_reducible first | assumption | exact .symm (by assumption) | exact pk2 (by assumption) | exact pk4 (by assumption) | (refine pkH (by assumption) ?_; k_extra "pk") | (refine pkL (by assumption) ?_; k_extra "pk") | fail)
  k_with "room" => first | exact rmA (by assumption) rfl | exact rmB (by assumption) rfl | exact rmC (by assumption) rfl | fail
  trivial
section
variable {prog : Program} {w : World} {A : Around} {E : Value → Shared → Prop} {s : Shared} {h₀ : Heap} {L : Addr} {m : Str → Option Value} {env : Env}
noncomputable def OneTurn (prog : Program) (w : World) (A : Around) (h₀ : Heap) (L : Addr) (m : Str → Option Value) (env : Env) (elt : PySem.Expr) (scope : Scope) (cl : List (Str × Addr)) (s : Shared) (news : List (Addr × Obj)) (v₁ : Value) (I : Addr) (oI : Obj) (C : Addr) (oC : Obj) (D : Addr) (oD : Obj) (E' : Value → Shared → Prop) : Prop :=
  wpAny (model prog w) A (eval elt (compEnvC scope cl C env)) (CompEnd h₀ L m s I oI C oC D oD (fun nw => nw = news) (fun y news' => y = v₁ ∧ news' = news)) E' s
noncomputable def OneSrc (prog : Program) (w : World) (A : Around) (h₀ : Heap) (L : Addr) (m : Str → Option Value) (env : Env) (elt : PySem.Expr) (x x₂ : Str) (scope : Scope) (cl : List (Str × Addr)) (Q : Value → Shared → Prop) (xv : Value) (s₁ : Shared) : Prop :=
  ∃ (ax T : Addr) (v₁ v₂ : Value) (nt n : Nat) (news : List (Addr × Obj)), xv = .ref ax ∧ A.handled = none ∧ Fr h₀ L s₁.heap m ∧ News h₀ L s₁.heap news ∧ (ax, listOf (List.toArray [Value.ref T]) n) ∈ news ∧ (T, ({ cls := .type "tuple", data := .seq #[v₁, v₂] nt } : Obj)) ∈ news ∧
    (∀ I oI C oC D m₂ h tk E', NsObj oC m₂ → m₂ x = some v₁ → m₂ x₂ = some v₂ → Fr h₀ L h m → News h₀ L h ((I, oI) :: (C, oC) :: (D, lst []) :: news) → Off3 I C D news → ((@Ne Nat I C) ∧ (@Ne Nat I D) ∧ (@Ne Nat C D)) →
      OneTurn prog w A h₀ L m env elt scope cl { s₁ with heap := h, toks := tk } news v₁ I oI C oC D (lst []) E') ∧
    (∀ D h tk, Fr h₀ L h m → News h₀ L h ((D, lst [v₁]) :: news) → Off1 D news → Q (.ref D) { s₁ with heap := h, toks := tk })
theorem comp_one {elt iter : PySem.Expr} {x x₂ : Str} {px px₂ tp : Pos} {tk} {scope : Scope} {cl : List (Str × Addr)} {pos : Pos} {Q : Value → Shared → Prop} (F₀ : Fr h₀ L s.heap m)
    (hclos : closureFor scope env = pure cl) (hcell : ∀ z ∈ scope.names, z.2 ≠ .cell) (hkind : scope.kind = .function)
    (hnames : ∀ z ∈ scope.names, z.2 = .local → scope.names.lookup z.1 = some .local) (hx : scope.names.lookup x = some .local) (hx₂ : scope.names.lookup x₂ = some .local) (hxx : x ≠ x₂)
    (h : wpAny (model prog w) A (eval iter env) (OneSrc prog w A h₀ L m env elt x x₂ scope cl Q) E s)
    (hs : ∀ x, foldedSetIterable iter env x = pure x := by intro _; rfl) :
    wpAny (model prog w) A (eval (.ListComp elt [⟨.Tuple [.Name x px, .Name x₂ px₂] tk tp, iter, [], 0⟩] scope pos) env) Q E s := by
  refine LCp.ListComp_P F₀ hclos hcell hkind hnames hx hx₂ hxx (wpAny_mono h (fun xv s₁ h₁ => ?_) fun _ _ e => e) hs
  obtain ⟨ax, T, v₁, v₂, nt, n, news, rfl, hh, F, N, hm, hT, turn, fin⟩ := h₁
  refine ⟨ax, List.toArray [Value.ref T], news, rfl, hh, F, N, .inr ⟨_, hm, rfl, _, rfl⟩, by rw [PySem.sizeLine_eq]; simp, ?_⟩
  rintro s₂ ⟨H, rfl⟩
  refine LCp.CompRestP.succ fun v hv => ?_
  have hv' : v = .ref T := by
    have : [Value.ref T][0]? = some v := by simpa using hv
    exact (Option.some.inj this).symm
  refine ⟨T, _, v₁, v₂, nt, hv', hT, rfl, rfl, ?_⟩
  intro I oI C oC D m₂ h tk E' hC h1 h2 F' N' off ne
  refine wpAny_mono (turn I oI C oC D m₂ h tk E' hC h1 h2 F' N' off ne) (fun y s₄ hr' => ?_) fun _ _ e => e
  obtain ⟨h', tk', nw, e, F₂, N₂, off₂, hS, rfl, rfl⟩ := hr'
  exact ⟨h', tk', _, e, F₂, N₂, off₂, .inr ⟨_, hm, rfl, _, rfl⟩, LCp.CompRestP.zero fun D h tk F' N' o => fin D h tk F' N' o⟩
end
end Mine
end

section
open PySem PySem.W PyProof.Rows PySem.Calls PyProof.Rows.LCg PyProof.Rows.LCt
set_option Elab.async false
set_option maxRecDepth 100000
set_option maxHeartbeats 8000000
namespace Mine
theorem lnD3_0 : True := by
  k_with_none
  w_top off
  k_with "pk" => first | exact pk1 | exact pk2 | exact pk3 | exact pk4 | (refine pkS ?_; k_extra "pk")
  k_with "ne" => (refine neN ?_; (try dsimp only); with_reducible first | assumption | exact .symm (by assumption) | exact pk2 (by assumption) | exact pk4 (by assumption) | (refine pkH (by assumption) ?_; k_extra "pk") | (refine pkL (by assumption) ?_; k_extra "pk") | fail)
  k_with "room" => first | exact rmA (by assumption) rfl | exact rmB (by assumption) rfl | exact rmC (by assumption) rfl | fail
  trivial
section
variable {prog : Program} {w : World} {p : Program} {loose : List Str} {mean : ExcName → Option Value} {mg mb : Str → Option Value} {dp un : Nat} {gd : Option (List Code)} {cn : Str} {cs : Scope} {a : Addr} {ccd : Value} {cl : List (Str × Addr)} {outer : List Env} {A₀ : Around} {base h₀ : Heap} {L : Addr} {m : Str → Option Value} {s : Shared} {Q E : Value → Shared → Prop} {news : List (Addr × Obj)}


theorem lnD3_1 : True := by
  k_with "exec Raise some none" => (k_here; k_dflt (refine raise_own (by rfl) ?_))
  k_with "call ref" => (k_here; (with_reducible show wpAny _ _ (call (Value.ref 51) _) _ _ _); (refine' exc_make ?BQ197 ?FQ197 ?XQ197 ?NQ197 ?TQ197 ?kQ197 ?dQ197 ?uQ197 ?_; (case BQ197 => k_asm); (case FQ197 => k_asm); (case XQ197 => k_asm); (case NQ197 => k_asm); (case TQ197 => k_asm); (case kQ197 => first | exact rfl | assumption); (case dQ197 => ktr_room); (case uQ197 => ktr_units)); intro h' tk' e' t1' d1' F' N' o1' o2' o3'; revert h' tk' e' t1' d1' F' N' o1' o2' o3'; intro _ _ _ _ _ _ _ _ _ _)
  k_with "RaisableX" => (k_here; refine ⟨_, _, _, rfl, (‹News _ _ _ ((_, excOd _ _) :: _)› _ (.head _)).1, rfl, rfl, rfl, Frag.In.keeps (by k_asm) (Fr.keep (by k_asm)), ?_⟩)
  k_with "leaving ref" => (k_here; (refine' leave_raiseZ ?BQ199 ?FQ199 ?NQ199 ?o1Q199 ?o2Q199 ?o3Q199 ?_; (case BQ199 => k_asm); (case FQ199 => k_asm); (case NQ199 => k_asm); (case o1Q199 => assumption); (case o2Q199 => assumption); (case o3Q199 => assumption)); intro h' R' U'; (try dsimp only at R' U' ⊢); revert h' R' U'; intro _ _ _)
  k_with "leaving ref" => (k_here; (refine' leave_onS ?k1Q200 ?k2Q200 ?k3Q200 ?k4Q200 ?_; (case k3Q200 => assumption); (case k1Q200 => assumption); (case k4Q200 => assumption); (case k2Q200 => assumption); k_whole; intro h' R' K' U'; (try dsimp only at R' U' ⊢); revert h' R' K' U'; intro _ _ _ _))
  trivial
theorem off_c1 {L : Nat} {rest : List (Addr × Obj)} (h : AllLt L rest) : ∀ q ∈ rest, q.1 ≠ L + 1 := fun q hq => Nat.ne_of_lt (Nat.lt_of_lt_of_le (allLt_mem h q hq) (by omega))
theorem off_c2 {L : Nat} {rest : List (Addr × Obj)} (h : AllLt L rest) : ∀ q ∈ rest, q.1 ≠ L + 1 + 1 := fun q hq => Nat.ne_of_lt (Nat.lt_of_lt_of_le (allLt_mem h q hq) (by omega))
theorem off_c3 {L : Nat} {rest : List (Addr × Obj)} (h : AllLt L rest) : ∀ q ∈ rest, q.1 ≠ L + 1 + 1 + 1 := fun q hq => Nat.ne_of_lt (Nat.lt_of_lt_of_le (allLt_mem h q hq) (by omega))
theorem off_c4 {L : Nat} {rest : List (Addr × Obj)} (h : AllLt L rest) : ∀ q ∈ rest, q.1 ≠ L + 1 + 1 + 1 + 1 := fun q hq => Nat.ne_of_lt (Nat.lt_of_lt_of_le (allLt_mem h q hq) (by omega))
theorem off_c5 {L : Nat} {rest : List (Addr × Obj)} (h : AllLt L rest) : ∀ q ∈ rest, q.1 ≠ L + 1 + 1 + 1 + 1 + 1 := fun q hq => Nat.ne_of_lt (Nat.lt_of_lt_of_le (allLt_mem h q hq) (by omega))

theorem lnD3_2 : True := by
  k_with "callWith ref" => (k_here; k_dflt (refine' callWith_F0 ?k1Q201 ?_; (case k1Q201 => exact FnAt.of (by k_asm) (by assumption)); k_whole; try dsimp only [List.nil_append, List.cons_append]))
  k_with "call ref" => (k_here; (with_reducible show wpAny _ _ (call (Value.ref 226) _) _ _ _); k_dflt (refine' remove_bad ?BQ202 ?FQ202 ?XQ202 ?NQ202 ?TQ202 ?kQ202 ?mQ202 ?dQ202 ?uQ202 ?SQ202 ?lQ202 ?vQ202 ?_; (case BQ202 => k_asm); (case FQ202 => k_asm); (case XQ202 => k_asm); (case NQ202 => k_asm); (case TQ202 => k_asm); (case kQ202 => first | exact rfl | assumption); (case mQ202 => intro q hq; simp only [List.mem_cons, List.not_mem_nil, or_false] at hq; rcases hq with rfl | rfl | rfl <;> k_mem); (case SQ202 => assumption); (case dQ202 => ktr_room); (case uQ202 => ktr_units); (case lQ202 => assumption); (case vQ202 => assumption)); intro G' h' tk' e' t' vs' F' R' U'; revert G' h' tk' e' t' vs' F' R' U'; intro _ _ _ _ _ _ _ _ _)
  trivial
/-- leave to walk on behind a halt -/
noncomputable def GoOn : Prop := True
theorem sum_room {σ : List Ses} (hl : σ.length ≤ 3) (ok : ∀ c ∈ σ, c.Ok prog w) : (σ.map (·.goal)).length + (σ.flatMap fun c => c.kv2.map (·.1)).length ≤ PySem.sizeLine := by
  have h1 := flat_len (fun c : Ses => c.kv2) σ (fun c hc => (ok c hc).len2)
  rw [PySem.sizeLine_eq, List.length_map]
  omega
theorem lst_is {D : Addr} {ys : List Value} (N : News h₀ L s.heap news) (hm : (D, LCg.lst ys) ∈ news) : s.heap.IsList D ys.toArray := ⟨_, (N _ hm).1, rfl, _, rfl⟩
theorem lso_is {D : Addr} {ys : List Value} {n : Nat} (N : News h₀ L s.heap news) (hm : (D, listOf (List.toArray ys) n) ∈ news) : s.heap.IsList D ys.toArray := ⟨_, (N _ hm).1, rfl, _, rfl⟩
theorem lnD3_3 : True := by
  k_with "binaryOp Add ref ref" => (k_here; k_dflt (refine' kmk_add_ints ?FQ203 ?NQ203 ?aQ203 ?bQ203 ?iQ203 ?jQ203 ?_ ?zQ203; (case FQ203 => k_asm); (case NQ203 => k_asm); (case aQ203 => exact lst_is (by k_asm) (by k_mem)); (case bQ203 => exact lst_is (by k_asm) (by k_mem)); (case iQ203 => assumption); (case jQ203 => assumption); (case zQ203 => exact sum_room (by assumption) (by assumption))); intro D' us' h' F' N' l1 hI'; have lu' := Nat.ne_of_gt (l1 (285, tabObj _) (by k_mem)); revert D' us' h' F' N' l1 hI' lu'; intro _ _ _ _ _ _ _ _)
  k_with "compareOp In int ref" => (k_here; k_dflt (refine' in_list_ints ?aQ204 ?iQ204 ?_; (case aQ204 => first | exact lso_is (by k_asm) (by k_mem) | exact lst_is (by k_asm) (by k_mem)); (case iQ204 => assumption)))
  trivial
theorem led_sub {w : World} {σ : List Ses} {l : List (Addr × Obj)} {q : Addr × Obj} (h : ∀ q ∈ ledS w σ, q ∈ l) (hq : q ∈ ledS w σ) : q ∈ l := h q hq
theorem led_mem {w : World} {O : Addr} {oO : Obj} {σ : List Ses} {l : List (Addr × Obj)} (hO : (O, oO) ∈ l) (h : ∀ q ∈ ledS w σ, q ∈ l) : ∀ q ∈ (O, oO) :: ledS w σ, q ∈ l := fun q hq => by
  rcases List.mem_cons.mp hq with rfl | hq
  · exact hO
  · exact h q hq

theorem lnD3_4 : True := by
  k_with "call ref" => (k_here; (with_reducible show wpAny _ _ (call (Value.ref 278) _) _ _ _); k_dflt (refine' goals_spec ?BQ205 ?FQ205 ?XQ205 ?NQ205 ?TQ205 ?kQ205 ?mQ205 ?dQ205 ?uQ205 ?OQ205 ?lQ205 ?nQ205 ?lenQ205 ?_; (case BQ205 => k_asm); (case FQ205 => k_asm); (case XQ205 => k_asm); (case NQ205 => k_asm); (case TQ205 => k_asm); (case kQ205 => first | exact rfl | assumption); (case OQ205 => assumption); (case mQ205 => refine led_mem (by k_mem) ?_; intro q hq; (repeat apply List.Mem.tail); exact led_sub (by assumption) (by assumption)); (case dQ205 => ktr_room); (case uQ205 => ktr_units); (case lQ205 => assumption); (case nQ205 => assumption); (case lenQ205 => assumption)); intro h' tk' D' ys' F' N' hI' lD'; have lt' := lD' (285, tabObj _) (by k_mem); have ls' := lD' (_, listOf #[.int _ _, .int _ _] _) (by k_mem); dsimp only at lt' ls'; have lt2' := Ne.symm lt'; have ls2' := Ne.symm ls'; revert h' tk' D' ys' F' N' hI' lD' lt' ls' lt2' ls2'; intro _ _ _ _ _ _ _ _ _ _ _ _)
  k_with "call ref" => (k_here; (with_reducible show wpAny _ _ (call (Value.ref 283) _) _ _ _); k_dflt (refine' sources_spec ?BQ206 ?FQ206 ?XQ206 ?NQ206 ?TQ206 ?kQ206 ?mQ206 ?dQ206 ?uQ206 ?OQ206 ?lQ206 ?nQ206 ?lenQ206 ?okQ206 ?_; (case BQ206 => k_asm); (case FQ206 => k_asm); (case XQ206 => k_asm); (case NQ206 => k_asm); (case TQ206 => k_asm); (case kQ206 => first | exact rfl | assumption); (case OQ206 => assumption); (case mQ206 => refine led_mem (by k_mem) ?_; intro q hq; (repeat apply List.Mem.tail); exact led_sub (by assumption) (by assumption)); (case dQ206 => ktr_room); (case uQ206 => ktr_units); (case lQ206 => assumption); (case nQ206 => assumption); (case lenQ206 => assumption); (case okQ206 => assumption)); intro h' tk' D' ys' F' N' hI' lD'; have lt' := lD' (285, tabObj _) (by k_mem); have ls' := lD' (_, listOf #[.int _ _, .int _ _] _) (by k_mem); dsimp only at lt' ls'; have lt2' := Ne.symm lt'; have ls2' := Ne.symm ls'; revert h' tk' D' ys' F' N' hI' lD' lt' ls' lt2' ls2'; intro _ _ _ _ _ _ _ _ _ _ _ _)
  k_with "compareOp In int ref" => (k_here; (refine' kda_in (knd := PySem.intKind _ _) ?NQ207 ?hQ207 ?dQ207 ?lQ207 (intKind_is _ _ _ _) _ ?bQ207 ?_; (case NQ207 => k_asm); (case hQ207 => k_mem); (case dQ207 => k_asm); (case lQ207 => assumption); (case bQ207 => exact rfl); k_whole))
  k_with "compareOp NotIn int ref" => (k_here; (refine Stop.go ?_))
  k_with "compareOp NotIn int ref" => (k_here; (with_reducible rename GoOn => goX); k_dflt (refine' kdg_notin (knd := PySem.intKind _ _) ?NQ209 ?hQ209 ?dQ209 ?lQ209 (intKind_is _ _ _ _) _ ?bQ209 ?_; (case NQ209 => k_asm); (case hQ209 => k_mem); (case dQ209 => assumption); (case lQ209 => assumption); (case bQ209 => exact rfl); k_whole); (try dsimp only [Bool.not_true, Bool.not_false]))
  k_with "call builtin:len" => (k_here; (with_reducible show wpAny _ _ (call (Value.builtin "len") [Value.ref _]) _ _ _); k_dflt (refine kda_len (knd := PySem.intKind _ _) (by k_asm) (by k_mem) (by k_asm) (by k_asm) (by rw [List.length_map]; omega) ?_))
  trivial
theorem gives {P : Prop} (h : P) : P := h
theorem lnD3_5 : True := by
  k_with "call ref" => (k_here; (with_reducible show wpAny _ _ (call (Value.ref 254) _) _ _ _); refine Stop.go ?_)
  k_with "call ref" => (k_here; (with_reducible show wpAny _ _ (call (Value.ref 261) _) _ _ _); refine Stop.go ?_)
  k_with "call ref" => (k_here; (with_reducible show wpAny _ _ (call (Value.ref 273) _) _ _ _); refine Stop.go ?_)
  k_with "isTrue BoolOp" => (k_here; (fail_if_success (with_reducible rename GoOn => goX)); refine Stop.go ?_)
  k_with "eval Lambda" => (k_here; refine Stop.go ?_)
  trivial
theorem cut_bool {MM : Model} {A : Around} {L : Addr} {h₀ : Heap} {m : Str → Option Value} {news : List (Addr × Obj)} {s : Shared} {Q : Bool → Shared → Prop} {E : Value → Shared → Prop} {t : Sem Bool} (P : Prop) (F : Fr h₀ L s.heap m) (N : News h₀ L s.heap news)
    (hw : wpAny MM A t (fun b s' => ∃ h' tk, s' = { s with heap := h', toks := tk } ∧ Fr h₀ L h' m ∧ News h₀ L h' news ∧ (b = true ↔ P)) E s)
    (hq : ∀ h' tk b, Fr h₀ L h' m → News h₀ L h' news → (b = true ↔ P) → Q b { s with heap := h', toks := tk }) : wpAny MM A t Q E s :=
  wpAny_mono hw (fun b s' ⟨h', tk, e, F', N', hb⟩ => e ▸ hq h' tk b F' N' hb) fun _ _ y => y
theorem mem_two {x y : Addr × Obj} {R l : List (Addr × Obj)} (h1 : x ∈ l) (h2 : y ∈ l) (h3 : ∀ q ∈ R, q ∈ l) : ∀ q ∈ x :: y :: R, q ∈ l := fun q hq => by
  rcases List.mem_cons.mp hq with rfl | hq
  · exact h1
  rcases List.mem_cons.mp hq with rfl | hq
  · exact h2
  exact h3 q hq
theorem ne_two {x y : Addr × Obj} {R : List (Addr × Obj)} {S : Addr} (h1 : x.1 ≠ S) (h2 : y.1 ≠ S) (h3 : ∀ q ∈ R, q.1 ≠ S) : ∀ q ∈ x :: y :: R, q.1 ≠ S := fun q hq => by
  rcases List.mem_cons.mp hq with rfl | hq
  · exact h1
  rcases List.mem_cons.mp hq with rfl | hq
  · exact h2
  exact h3 q hq
theorem newc13 {h₀ : Heap} {L : Addr} {h : Heap} {x a1 a2 a3 a4 a5 a6 a7 a8 a9 a10 a11 a12 a13 : Addr × Obj} {nc R : List (Addr × Obj)} (N : News h₀ L h (x :: (nc ++ (a1 :: a2 :: a3 :: a4 :: a5 :: a6 :: a7 :: a8 :: a9 :: a10 :: a11 :: a12 :: a13 :: R)))) : News h₀ L h (x :: a1 :: a2 :: a3 :: a4 :: a5 :: a6 :: a7 :: a8 :: a9 :: a10 :: a11 :: a12 :: a13 :: (nc ++ R)) := ledger_sub N (cons_sub (mid_swap (pre := [a1, a2, a3, a4, a5, a6, a7, a8, a9, a10, a11, a12, a13])))
theorem newc12 {h₀ : Heap} {L : Addr} {h : Heap} {x a1 a2 a3 a4 a5 a6 a7 a8 a9 a10 a11 a12 : Addr × Obj} {nc R : List (Addr × Obj)} (N : News h₀ L h (x :: (nc ++ (a1 :: a2 :: a3 :: a4 :: a5 :: a6 :: a7 :: a8 :: a9 :: a10 :: a11 :: a12 :: R)))) : News h₀ L h (x :: a1 :: a2 :: a3 :: a4 :: a5 :: a6 :: a7 :: a8 :: a9 :: a10 :: a11 :: a12 :: (nc ++ R)) := ledger_sub N (cons_sub (mid_swap (pre := [a1, a2, a3, a4, a5, a6, a7, a8, a9, a10, a11, a12])))
theorem mem_code {q : Addr × Obj} {nc oth R : List (Addr × Obj)} (h : q ∈ nc ++ oth) (hR : ∀ q ∈ oth, q ∈ R) : q ∈ nc ++ R := (List.mem_append.mp h).elim (List.mem_append_left _) fun h => List.mem_append_right _ (hR q h)
theorem st_mem {M dM S O src : Addr} {oS oO : Obj} {t1 t2 tm tx ty : Tok} {nM nn : Nat} {x y : Int} {ps : Array Value} {σ : List Ses} {oth l : List (Addr × Obj)} (h1 : (M, instObj 236 dM) ∈ l) (h2 : (dM, mirD w t1 t2 tm S nM) ∈ l) (h3 : (S, oS) ∈ l) (h4 : (O, oO) ∈ l) (h5 : (src, listOf #[.int x tx, .int y ty] nn) ∈ l) (h6 : (285, tabObj ps) ∈ l) (h7 : ∀ q ∈ ledS w σ, q ∈ l) (h8 : ∀ q ∈ oth, q ∈ l) : ∀ q ∈ stLed w M dM S O src t1 t2 tm nM oS oO x y tx ty nn ps σ oth, q ∈ l :=
  mem_three h1 h2 h3 (mem_three h4 h5 h6 fun q hq => (List.mem_append.mp hq).elim (h7 q) (h8 q))
theorem lnD3_6 : True := by
  k_with "setItem ref int" => (k_here; k_dflt (refine' kda_set (knd := PySem.intKind _ _) ?FQ216 ?NQ216 ?UQ216 ?dQ216 (intKind_is _ _ _ _) ?zQ216 ?_; (case FQ216 => k_asm); (case NQ216 => k_asm); (case UQ216 => k_updF); (case dQ216 => k_asm); (case zQ216 => first | (rw [sizeLine_eq, List.length_map]; omega) | (rw [sizeLine_eq]; omega))); intro h' o' F' N' hd'; (try dsimp only at N'); revert h' o' F' N' hd'; intro _ _ _ _ _)
  k_with "call builtin:dict.pop" => (k_here; k_dflt (((with_reducible show wpAny _ _ (call (Value.builtin "dict.pop") [Value.ref _, Value.int _ _]) _ _ _); refine' kob_pop (knd := PySem.intKind _ _) (more := []) ?FQ217 ?NQ217 ?UQ217 ?dQ217 (intKind_is _ _ _ _) (.inl rfl) (by rfl) (PySem.F.args_dict_pop_2 _ _) ?lQ217 ?zQ217 ?_; (case FQ217 => k_asm); (case NQ217 => k_asm); (case UQ217 => k_updF); (case dQ217 => k_asm); (case lQ217 => assumption); (case zQ217 => first | (rw [sizeLine_eq, List.length_map]; omega) | (rw [sizeLine_eq]; omega)))); intro h' o' F' N' hd'; (try dsimp only at N'); revert h' o' F' N' hd'; intro _ _ _ _ _)
  k_with "getMethod ref" => (k_here; (with_reducible show wpAny _ _ (getMethod (Value.ref _) (Str.ofString "pop") _) _ _ _); k_dflt (refine kob_method (knd := PySem.intKind _ _) PySem.F.slot_dict_pop PySem.F.type_dict_pop (by k_asm) (by k_mem) (by k_asm) ?_))
  k_with "getItem ref int" => (k_here; (with_reducible show wpAny _ _ (getItem (Value.ref _) (Value.int _ _)) _ _ _); (refine' dict_getitem (knd := PySem.intKind _ _) (intKind_is _ _ _ _) ?NQ219 ?hQ219 ?dQ219 ?lQ219 ?_; (case NQ219 => k_asm); (case hQ219 => k_mem); (case dQ219 => k_asm); (case lQ219 => assumption)))
  k_with "subscriptTail" => (k_here; (with_reducible show wpAny _ _ (subscriptTail _ _ (Value.ref _) (Value.int _ _)) _ _ _); (with_unfolding_all refine' item_written (vs := [_, _, _]) ?k1Q220 ?k2Q220 ?k3Q220 ?k4Q220 ?k5Q220 ?_ ?k6Q220; (case k1Q220 => k_asm); (case k2Q220 => k_mem); (case k3Q220 => decide); (case k4Q220 => decide); (case k5Q220 => rfl); (case k6Q220 => with_unfolding_all rfl); k_whole))
  k_with "subscriptTail" => (k_here; k_dflt ((with_reducible show wpAny _ _ (subscriptTail _ _ (Value.ref _) (Value.int _ _)) _ _ _); refine kda_item (knd := PySem.intKind _ _) (by k_asm) (by k_mem) (by k_asm) (intKind_is _ _ _ _) (by assumption) ?_))
  k_with "compareOp NotIn int ref" => (k_here; (with_reducible rename GoOn => goX); k_dflt (refine' kdg_notin (knd := PySem.intKind _ _) ?NQ222 ?hQ222 ?dQ222 ?lQ222 (intKind_is _ _ _ _) _ ?bQ222 ?_; (case NQ222 => k_asm); (case hQ222 => k_mem); (case dQ222 => assumption); (case lQ222 => assumption); (case bQ222 => assumption); k_whole); (try dsimp only [Bool.not_true, Bool.not_false]))
  trivial
theorem st_mem2 {M dM S O src : Addr} {oS oO : Obj} {t1 t2 tm tx ty : Tok} {nM nn : Nat} {x y : Int} {ps : Array Value} {σ : List Ses} {oth l : List (Addr × Obj)} (h1 : (M, instObj 236 dM) ∈ l) (h2 : (dM, mirD w t1 t2 tm S nM) ∈ l) (h3 : (S, oS) ∈ l) (h4 : (O, oO) ∈ l) (h5 : (src, listOf #[.int x tx, .int y ty] nn) ∈ l) (h6 : (285, tabObj ps) ∈ l) (h7 : ∀ q ∈ ledS w σ ++ oth, q ∈ l) : ∀ q ∈ stLed w M dM S O src t1 t2 tm nM oS oO x y tx ty nn ps σ oth, q ∈ l :=
  mem_three h1 h2 h3 (mem_three h4 h5 h6 h7)
set_option maxHeartbeats 0 in
theorem deed_spec {M dM S O src : Addr} {oS oO : Obj} {t1 t2 tm : Tok} {nM : Nat} {σ : List Ses} {x y : Int} {tx ty : Tok} {nn : Nat} {ps : Array Value} {oth keep : List (Addr × Obj)}
    (B : Below A₀ base [] h₀) (F : Fr h₀ L s.heap m) (X : (pre.heap_1 w.params).In h₀) (T : Top p loose mean mg mb h₀) (hk : cs.kind = .function)
    (XB : (pre.heap_1 w.params).In base) (TB : Top p loose mean mg mb base) (CB : CodeHd base 289 285)
    (NA : News h₀ L s.heap (stLed w M dM S O src t1 t2 tm nM oS oO x y tx ty nn ps σ (oth ++ keep))) (I : Inv prog w M dM S O src oS oO ps σ (oth ++ keep)) (tab0 : TabOk ps oth) (hy0 : 0 ≤ y) (hy1 : y < 2147483647)
    (hd : dp + 500 < recursionLimit) (hu : un + 500 < cLine)
    (hret : ∀ h' tk oS' oO' x' y' tx' ty' nn' ps' σ' newc, Fr h₀ L h' m → News h₀ L h' (stLed w M dM S O src t1 t2 tm nM oS' oO' x' y' tx' ty' nn' ps' σ' (newc ++ (oth ++ keep))) → Inv prog w M dM S O src oS' oO' ps' σ' (newc ++ (oth ++ keep)) → TabOk ps' (newc ++ oth) → 0 ≤ y' → y' < 2147483647 → Q (.bool true) { s with heap := h', toks := tk }) :
    wpAny (model prog w) (ktrTop dp un gd cn cs L a ccd cl []) (call (.ref 290) [.ref src, .ref M, .ref O]) Q E s := by
  have I0 := I
  obtain ⟨nd, hS, hO, loS, loO, nn', hl, ok, tab, ky⟩ := I
  have D : KtsDicts (([] : List Env).filterMap (·.frame)) h₀ := fun b hb => by simp at hb
  have hRled : ∀ q ∈ ledS w σ, q ∈ ledS w σ ++ (oth ++ keep) := fun q hq => List.mem_append_left _ hq
  have hRoth : ∀ q ∈ oth ++ keep, q ∈ ledS w σ ++ (oth ++ keep) := fun q hq => List.mem_append_right _ hq
  unfold stLed at NA
  generalize hR : ledS w σ ++ (oth ++ keep) = R at NA nd hRled hRoth
  have hRot0 : ∀ q ∈ oth, q ∈ R := fun q hq => hRoth q (List.mem_append_left _ hq)
  have N : News h₀ L s.heap ((M, instObj 236 dM) :: (dM, mirD w t1 t2 tm S nM) :: (S, oS) :: (O, oO) :: (src, listOf #[.int x tx, .int y ty] nn) :: (285, tabObj ps) :: R) := NA
  clear NA
  simp only [List.nodup_cons, List.mem_cons, not_or] at nd
  obtain ⟨⟨nMd, nMS, nMO, nMs, nMt, nMR⟩, ⟨ndS, ndO, nds, ndt, ndR⟩, ⟨nSO, nSs, nSt, nSR⟩, ⟨nOs, nOt, nOR⟩, ⟨nst, nsR⟩, ntR, ndRR⟩ := nd
  have oM := nd_off nMR
  have odM := nd_off ndR
  have oS' := nd_off nSR
  have oO' := nd_off nOR
  have osrc := nd_off nsR
  have otab := nd_off ntR
  have nts : (285 : Nat) ≠ src := fun e => nst e.symm
  refine wpAny_call ?_
  k_dflt (refine' code_catchC (binds := [(Str.ofString "source", .ref src), (Str.ofString "mirrors", .ref M), (Str.ofString "own", .ref O)]) ?k1 ?k2 ?k3 ?k4 ?k5 ?XB ?TB ?D ?kA ?kF ?kK ?k6 ?k7 ?k8 ?k9 ?kB ?kD ?_ ?c2 ?c3 ?c4; (case kA => exact rfl); (case kF => exact rfl); (case kK => first | exact rfl | assumption); (case k1 => k_asm); (case k2 => k_asm); (case k3 => k_asm); (case k4 => k_asm); (case k5 => k_asm); (case XB => assumption); (case TB => assumption); (case D => assumption); (case k6 => k_is); (case k7 => k_is); (case k8 => ktr_room); (case k9 => exact BindsTo.of_eq rfl); (case kB => exact rfl); (case kD => decide +kernel); (case c2 => exact rfl); (case c3 => exact rfl); (case c4 => exact rfl))
  k_whole
  intro g L1 h0 tk0 cells FG F0 N0 Y0 B0 X0 T0 D0 l1
  have l1c := l1
  k_lt l1
  have w1 := off_c1 l1.2.2.2.2.2.2
  have w2 := off_c2 l1.2.2.2.2.2.2
  have w3 := off_c3 l1.2.2.2.2.2.2
  have w4 := off_c4 l1.2.2.2.2.2.2
  have w5 := off_c5 l1.2.2.2.2.2.2
  replace F0 : Fr g L1 h0 (fun y => if y = Str.ofString "own" then some (Value.ref O) else if y = Str.ofString "source" then some (Value.ref src) else none) := F0
  replace Y0 := (show CellsAre (fun y => if y = Str.ofString "mirrors" then some (Value.ref M) else none) _ _ from Y0)
  k_cells Y0
  (try simp only [List.cons_append, List.nil_append] at N0)
  (try dsimp only)
  rename_i o1 o2 o3 o4 o5 c1 c2 c3 c4 c5
  replace c1 : o1.data = .cell none := c1
  replace c2 : o2.data = .cell none := c2
  replace c3 : o3.data = .cell none := c3
  replace c4 : o4.data = .cell none := c4
  replace c5 : o5.data = .cell (some (.ref M)) := c5
  try k_lift B0
  try k_fold
  k_steps
  unfold Stop
  k_dflt (refine' take_specU ?B ?F ?X ?N ?T ?k ?U ?d ?u ?t1 ?t2 ?y0 ?y1 ?_; (case B => k_asm); (case F => k_asm); (case X => k_asm); (case N => k_asm); (case T => k_asm); (case k => first | exact rfl | assumption); (case U => k_updF); (case d => ktr_room); (case u => ktr_units); (case t1 => decide); (case t2 => decide); (case y0 => assumption); (case y1 => assumption))
  intro d1 e1 x1 y1 tx1 ty1 n1 h1 tk1 da1 db1 ya1 yb1 F1 N1
  try dsimp only at N1
  k_sweep
  k_steps
  unfold Stop
  k_dflt (refine' take_specU ?B ?F ?X ?N ?T ?k ?U ?d ?u ?t1 ?t2 ?y0 ?y1 ?_; (case B => k_asm); (case F => k_asm); (case X => k_asm); (case N => k_asm); (case T => k_asm); (case k => first | exact rfl | assumption); (case U => k_updF); (case d => ktr_room); (case u => ktr_units); (case t1 => decide); (case t2 => decide); (case y0 => assumption); (case y1 => assumption))
  intro d2 e2 x2 y2 tx2 ty2 n2 h2 tk2 da2 db2 ya2 yb2 F2 N2
  try dsimp only at N2
  k_sweep
  k_steps
  unfold Stop
  k_dflt (refine' take_specU ?B ?F ?X ?N ?T ?k ?U ?d ?u ?t1 ?t2 ?y0 ?y1 ?_; (case B => k_asm); (case F => k_asm); (case X => k_asm); (case N => k_asm); (case T => k_asm); (case k => first | exact rfl | assumption); (case U => k_updF); (case d => ktr_room); (case u => ktr_units); (case t1 => decide); (case t2 => decide); (case y0 => assumption); (case y1 => assumption))
  intro d3 e3 x3 y3 tx3 ty3 n3 h3 tk3 da3 db3 ya3 yb3 F3 N3
  try dsimp only at N3
  k_sweep
  k_steps
  · unfold Stop
    k_dflt (refine' one_vlan ?B ?F ?X ?N ?T ?k ?U ?h1 ?h2 ?d ?u ?y0 ?y1 ?_; (case B => k_asm); (case F => k_asm); (case X => k_asm); (case N => k_asm); (case T => k_asm); (case k => first | exact rfl | assumption); (case U => k_updF); (case h1 => k_mem); (case h2 => intro o; (try dsimp only); k_mem); (case d => ktr_room); (case u => ktr_units); (case y0 => assumption); (case y1 => assumption))
    intro v x4 y4 tx4 ty4 n4 h4 tk4 hv ya4 yb4 F4 N4
    try dsimp only at N4
    k_sweep
    k_steps
    unfold Stop
    refine cut_bool (¬ MakeOk σ (1 + d2) (1 + d3)) (by k_asm) (by k_asm) ?_ ?_
    · have go : GoOn := trivial
      k_steps
      all_goals (try k_asm)
      all_goals (have kl : (kvO σ).length = σ.length := List.length_map _)
      all_goals first | exact drop3 (by assumption) | exact iff_of_true (by first | exact rfl | exact trivial) (mk1 (by assumption)) | exact iff_of_true (by first | exact rfl | exact trivial) (mk3 (by assumption) (by assumption)) | exact iff_of_false Bool.false_ne_true (fun x => x (mk4 (by assumption) (by assumption) (by omega) (by assumption))) | exact iff_of_true (by first | exact rfl | exact trivial) (mk2 (by omega))
    · intro h5 tk5 b F5 N5 hb
      k_sweep
      cases b
      · have good : MakeOk σ (1 + d2) (1 + d3) := Classical.not_not.mp fun x => Bool.false_ne_true (hb.mpr x)
        clear hb
        k_steps
        k_dflt (refine' make_specU (S := S) (oS := oS) (dM := dM) (t1 := t1) (t2 := t2) (tm := tm) (nM := nM) ?B ?F ?X ?N ?T ?k ?U ?m ?ne ?d ?u ?S ?l ?n ?len ?ok ?v ?_; (case B => k_asm); (case F => k_asm); (case X => k_asm); (case N => k_asm); (case T => k_asm); (case k => first | exact rfl | assumption); (case U => k_updF); (case m => exact mem_two (by k_mem) (by k_mem) (by intro q hq; (repeat apply List.Mem.tail); exact hRled q hq)); (case ne => exact ne_two nMS ndS (fun q hq => oS' q (hRled q hq))); (case d => ktr_room); (case u => ktr_units); (case S => assumption); (case l => assumption); (case n => assumption); (case len => assumption); (case ok => assumption); (case v => assumption))
        intro h6 tk6 inst d so1 src1 oS6 s1 s2 s3 m1 F6 N6 k1 k2 k3 k4 k5 k6
        try dsimp only at N6
        have kO : @LT.lt Nat _ O d := k4 (O, oO) (by k_mem)
        have k4' := fun q (hq : q ∈ stLed w M dM S O src t1 t2 tm nM oS oO x4 y4 tx4 ty4 n4 ps σ (oth ++ keep)) => k4 q (st_mem (by k_mem) (by k_mem) (by k_mem) (by k_mem) (by k_mem) (by k_mem) (fun q hq => mem13 (hRled q hq)) (fun q hq => mem13 (hRoth q hq)) q hq)
        replace k5 : @LT.lt Nat _ d inst := k5
        replace k6 : @LT.lt Nat _ inst so1 := k6
        k_sweep
        k_steps
        rename_i sr2 _ so2 lo2 _ _ so2d _ lA lst _ _ _ lB h7 oO7 F7 N7 hd7
        have lB1 : @LT.lt Nat _ so1 sr2 := lA.2.2.1
        have lB2 : @LT.lt Nat _ sr2 lst := lB.1
        have kS' := Eq.mp (congrArg (fun l => Obj.IsDictOf (intKind prog w) oS6 l) (make_kvM (c := newSes (1 + d2) (1 + d3) tk3 v inst d so1 lst sr2 src1 so2 s1 s2 s3 m1) good rfl)) k1
        have kO' := Eq.mp (congrArg (fun l => Obj.IsDictOf (intKind prog w) oO7 l) (make_kvO (c := newSes (1 + d2) (1 + d3) tk3 v inst d so1 lst sr2 src1 so2 s1 s2 s3 m1) good rfl)) hd7
        refine Or.inl ⟨L1, _, _, F7, N7, fun kF kN => ?_⟩
        refine hret _ _ oS6 oO7 x4 y4 tx4 ty4 n4 ps (σ ++ [newSes (1 + d2) (1 + d3) tk3 v inst d so1 lst sr2 src1 so2 s1 s2 s3 m1]) [] kF (ledger_sub kN (st_mem (by k_mem) (by k_mem) (by k_mem) (by k_mem) (by k_mem) (by k_mem) ?_ (fun q hq => mem15 (mem3 (hRoth q hq))))) (I0.make (t1 := t1) (t2 := t2) (tm := tm) (nM := nM) (x := x4) (y := y4) (tx := tx4) (ty := ty4) (nn := n4) (newSes_ok k2 so2d hv k3 lo2) (fun k hk => by cases hk) (make_num good) good.2.1 kS' kO' (fresh5 k5 k6 ?_ ?_) (fun a ha q hq => Nat.lt_of_lt_of_le (k4' q hq) (above5 k5 k6 ?_ ?_ a ha))) tab0 ya4 yb4
        · intro q hq
          rw [ledS_app, ledS_one] at hq
          rcases List.mem_append.mp hq with h | h
          · exact mem15 (mem3 (hRled q h))
          · simp only [Ses.led, List.mem_cons, List.not_mem_nil, or_false] at h
            rcases h with h | h | h | h | h
            all_goals (rw [h]; k_mem)
        all_goals first | assumption | omega
      · have bad := hb.mp rfl
        clear hb
        k_steps
        unfold Stop
        k_dflt (refine' kla_eval ?d0 ?_; (case d0 => exact rfl))
        k_dflt (refine' lam_new (oth := oth) ?F ?N ?T ?C ?cd ?U ?t ?cl ?_; (case F => k_asm); (case N => k_asm); (case T => k_asm); (case cd => exact rfl); (case C => kn_code); (case U => k_updF); (case t => exact tab0); (case cl => exact rfl))
        intro f c' oc vs t ctv h6 tk6 ps' newc F6 N60 e6 dc dd1 dd2 tab' l6 l7
        try dsimp only at N60
        have N6 := newc13 N60
        clear N60
        k_sweep
        k_steps
        unfold Stop
        k_dflt (refine' refused_spec ?hl ?B ?F ?X ?N ?T ?k XB TB D0 ?d ?u (Nat.le_refl _) (Nat.le_refl _) ?_ ?_; (case B => k_asm); (case F => k_asm); (case X => k_asm); (case N => k_asm); (case hl => k_mem); (case T => k_asm); (case k => first | exact rfl | assumption); (case d => ktr_room); (case u => ktr_units); rotate_left)
        · intro g9 h9 tk9 KT F9 N9 B9 X9 T9 D9
          refine Or.inr ⟨_, L1, _, _, KT, F9, N9, fun z1 z2 z3 z4 _ _ _ _ => ?_⟩
          obtain ⟨z3, z4⟩ := back_nil rfl z2 z3 z4
          exact hret _ _ oS oO x4 y4 tx4 ty4 n4 ps' σ newc z3 (ledger_sub z4 (st_mem (by k_mem) (by k_mem) (by k_mem) (by k_mem) (by k_mem) (by k_mem) (fun q hq => mem14 (List.mem_append_right _ (hRled q hq))) (fun q hq => mem14 (mem_code hq hRoth)))) (I0.bad (t1 := t1) (t2 := t2) (tm := tm) (nM := nM) (x := x4) (y := y4) (tx := tx4) (ty := ty4) (nn := n4) (tab'.mono fun q hq => (List.mem_append.mp hq).elim (fun h => List.mem_append_left _ h) fun h => List.mem_append_right _ (List.mem_append_left _ h)) e6 fun q hq z hz => (l7 q hq).2 z (st_mem (by k_mem) (by k_mem) (by k_mem) (by k_mem) (by k_mem) (by k_mem) (fun q hq => mem13 (hRled q hq)) (fun q hq => mem13 (hRoth q hq)) z hz)) tab' ya4 yb4
        · exact lam_make (c' := c') (oc := oc) (vs := vs) (t := t) (M := M) (dM := dM) (S := S) (oS := oS) (t1 := t1) (t2 := t2) (tm := tm) (nM := nM) (σ := σ) (num := 1 + d2) (port := 1 + d3) (by k_mem) (mem14 (mem_code dc hRot0)) dd1 dd2 (by k_mem) (by k_mem) (by k_mem) (by k_mem) c5 (by assumption) (by assumption) (by assumption) (mem_three (by k_mem) (by k_mem) (by k_mem) (fun q hq => mem14 (List.mem_append_right _ (hRled q hq)))) hS loS nn' hl ok (ne_two nMS ndS (fun q hq => oS' q (hRled q hq))) bad (by ktr_room) (by ktr_units)
  · unfold Stop
    have lDR := (by rename (L1 + 1 + 1 + 1 + 1 + 1 < _) ∧ _ => lD; exact lD.2.2.2.2.2.2.2.2.2.2.2)
    have lLR := (by rename _ < _ ∧ L1 + 1 + 1 + 1 + 1 + 1 < _ ∧ _ => lD; exact lD.2.2.2.2.2.2.2.2.2.2.2.2)
    k_dflt (refine' one_word ?B ?F ?X ?N ?T ?k ?U ?h1 ?h2 ?d ?u ?y0 ?y1 ?_; (case B => k_asm); (case F => k_asm); (case X => k_asm); (case N => k_asm); (case T => k_asm); (case k => first | exact rfl | assumption); (case U => k_updF); (case h1 => k_mem); (case h2 => intro o; (try dsimp only); k_mem); (case d => ktr_room); (case u => ktr_units); (case y0 => assumption); (case y1 => assumption))
    intro v tv x4 y4 tx4 ty4 n4 h4 tk4 hv ya4 yb4 F4 N4
    try dsimp only at N4
    k_sweep
    k_steps
    unfold Stop
    refine cut_bool (AddBad σ (1 + d2) (1 + d3) v) (by k_asm) (by k_asm) ?_ ?_
    · have go : GoOn := trivial
      k_steps
      all_goals (try k_asm)
      all_goals first | exact drop1 (by assumption) | exact iff_of_true (by first | exact rfl | exact trivial) (by first | exact ab1 (by assumption) | exact ab2 hv (by assumption) | exact ab3 (by assumption)) | exact iff_of_false (by first | exact Bool.false_ne_true | exact id) (ab4 hv (by assumption) (by assumption) (by assumption))
    · intro h5 tk5 b F5 N5 hb
      k_sweep
      cases b
      · have good : ¬ AddBad σ (1 + d2) (1 + d3) v := fun x => Bool.false_ne_true (hb.mpr x)
        clear hb
        obtain ⟨⟨c, hc, hnum⟩, hway, hgl⟩ := add_good good
        obtain ⟨σ1, σ2, hσ⟩ := List.append_of_mem hc
        have hcs : (c.src, c.so) ∈ R := hRled _ (ledS_mem hc _ (.tail _ (.tail _ (.head _))))
        have hcl : (c.lst, lstO c) ∈ R := hRled _ (ledS_mem hc _ (.tail _ (.tail _ (.tail _ (.head _)))))
        have hc2 : (c.src2, c.so2) ∈ R := hRled _ (ledS_mem hc _ (.tail _ (.tail _ (.tail _ (.tail _ (.head _))))))
        have hRo : ∀ q ∈ (c.src, c.so) :: (c.lst, lstO c) :: (c.src2, c.so2) :: restS w σ1 c σ2 (oth ++ keep), q ∈ R := by rw [← hR, hσ]; exact fun q hq => (open_perm c.kv c.kv2 c.so c.so2).mem_iff.mpr hq
        have hRi : ∀ q ∈ R, q ∈ (c.src, c.so) :: (c.lst, lstO c) :: (c.src2, c.so2) :: restS w σ1 c σ2 (oth ++ keep) := by rw [← hR, hσ]; exact fun q hq => (open_perm c.kv c.kv2 c.so c.so2).mem_iff.mp hq
        have ndO := ndRR
        rw [← hR, hσ] at ndO
        obtain ⟨zz1, zz2, zz3, zz4, zz5⟩ := open_nd ndO
        have zz6 : ∀ q ∈ (c.lst, lstO c) :: (c.src2, c.so2) :: restS w σ1 c σ2 (oth ++ keep), q.1 ≠ c.src := fun q hq => by
          rcases List.mem_cons.mp hq with rfl | hq
          · exact zz1.symm
          rcases List.mem_cons.mp hq with rfl | hq
          · exact zz2.symm
          exact zz4 q hq
        have hcok := ok c hc
        have hcky := ky c hc
        have hso2 := hcok.so2
        have hlo2 := hcok.lo2
        have hln2 := hcok.len2
        have hvO : valueAt (kvO σ) (1 + d2) = some (.ref c.lst) := hnum ▸ valueAt_ses Ses.num (fun c => Value.ref c.lst) nn' hc
        have u1 : @Ne Nat M c.src := fun e => oM _ hcs e.symm
        have u2 : @Ne Nat dM c.src := fun e => odM _ hcs e.symm
        have u3 : @Ne Nat S c.src := fun e => oS' _ hcs e.symm
        have u4 : @Ne Nat O c.src := fun e => oO' _ hcs e.symm
        have u5 : @Ne Nat src c.src := fun e => osrc _ hcs e.symm
        have u6 : @Ne Nat 285 c.src := fun e => otab _ hcs e.symm
        have v1 : @Ne Nat M c.src2 := fun e => oM _ hc2 e.symm
        have v2 : @Ne Nat dM c.src2 := fun e => odM _ hc2 e.symm
        have v3 : @Ne Nat S c.src2 := fun e => oS' _ hc2 e.symm
        have v4 : @Ne Nat O c.src2 := fun e => oO' _ hc2 e.symm
        have v5 : @Ne Nat src c.src2 := fun e => osrc _ hc2 e.symm
        have v6 : @Ne Nat 285 c.src2 := fun e => otab _ hc2 e.symm
        have x1 : @Ne Nat c.src (L1 + 1) := w1 _ hcs
        have x2 : @Ne Nat c.src (L1 + 1 + 1) := w2 _ hcs
        have x3z : @Ne Nat c.src (L1 + 1 + 1 + 1) := w3 _ hcs
        have x4' : @Ne Nat c.src (L1 + 1 + 1 + 1 + 1) := w4 _ hcs
        have x5 : @Ne Nat c.src (L1 + 1 + 1 + 1 + 1 + 1) := w5 _ hcs
        have x6 : @Ne Nat c.src2 (L1 + 1) := w1 _ hc2
        have x7 : @Ne Nat c.src2 (L1 + 1 + 1) := w2 _ hc2
        have x8 : @Ne Nat c.src2 (L1 + 1 + 1 + 1) := w3 _ hc2
        have x9 : @Ne Nat c.src2 (L1 + 1 + 1 + 1 + 1) := w4 _ hc2
        have x10 : @Ne Nat c.src2 (L1 + 1 + 1 + 1 + 1 + 1) := w5 _ hc2
        have q1 : @LT.lt Nat _ c.src _ := allLt_mem lDR _ hcs
        have q2 : @LT.lt Nat _ c.src2 _ := allLt_mem lDR _ hc2
        have q3 : @LT.lt Nat _ c.src _ := allLt_mem lLR _ hcs
        have q4 : @LT.lt Nat _ c.src2 _ := allLt_mem lLR _ hc2
        replace N5 := open13 N5 hRo
        k_steps
        k_dflt (refine' add_okU (c := c) (S := S) (oS := oS) (dM := dM) (t1 := t1) (t2 := t2) (tm := tm) (nM := nM) (σ := σ) ?B ?F ?X ?N ?T ?k ?U hnum ?o5 ?m ?d ?u hS loS nn' hl ok hc ⟨hway, hgl⟩ ?_; (case B => k_asm); (case F => k_asm); (case X => k_asm); (case N => k_asm); (case T => k_asm); (case k => first | exact rfl | assumption); (case U => k_updF); (case o5 => exact (by intro q hq; simp only [List.mem_cons, List.not_mem_nil, or_false] at hq; rcases hq with rfl | rfl | rfl | rfl | rfl; exact u1; exact u2; exact u3; exact zz4 _ (.head _); exact zz4 _ (.tail _ (.head _)))); (case m => exact mem_three (by k_mem) (by k_mem) (by k_mem) (fun q hq => mem13 (hRi q (hRled q hq)))); (case d => ktr_room); (case u => ktr_units))
        intro h6 tk6 so6 v6' F6 N6 hso6
        try dsimp only at N6
        k_sweep
        k_steps
        rename_i so7 F7 N7 hd7
        obtain ⟨ok7, ky7⟩ := upd_add hcok hcky (by omega) (by omega) rfl ⟨_, _, rfl⟩ hso6 hd7
        refine Or.inl ⟨L1, _, _, F7, N7, fun kF kN => ?_⟩
        exact hret _ _ oS oO x4 y4 tx4 ty4 n4 ps (σ1 ++ c.upd _ _ so6 so7 :: σ2) [] kF (ledger_sub kN (st_mem2 (by k_mem) (by k_mem) (by k_mem) (by k_mem) (by k_mem) (by k_mem) (fun q hq => mem13 ((open_perm _ _ so6 so7).mem_iff.mp hq)))) (Inv.upd (hσ ▸ I0) ok7 ky7) tab0 ya4 yb4
      · have bad := hb.mp rfl
        clear hb
        k_steps
        unfold Stop
        k_dflt (refine' kla_eval ?d0 ?_; (case d0 => exact rfl))
        k_dflt (refine' lam_new (oth := oth) ?F ?N ?T ?C ?cd ?U ?t ?cl ?_; (case F => k_asm); (case N => k_asm); (case T => k_asm); (case cd => exact rfl); (case C => kn_code); (case U => k_updF); (case t => exact tab0); (case cl => exact rfl))
        intro f c' oc vs t ctv h6 tk6 ps' newc F6 N60 e6 dc dd1 dd2 tab' l6 l7
        try dsimp only at N60
        have N6 := newc13 N60
        clear N60
        k_sweep
        k_steps
        unfold Stop
        k_dflt (refine' refused_spec ?hl ?B ?F ?X ?N ?T ?k XB TB D0 ?d ?u (Nat.le_refl _) (Nat.le_refl _) ?_ ?_; (case B => k_asm); (case F => k_asm); (case X => k_asm); (case N => k_asm); (case hl => k_mem); (case T => k_asm); (case k => first | exact rfl | assumption); (case d => ktr_room); (case u => ktr_units); rotate_left)
        · intro g9 h9 tk9 KT F9 N9 B9 X9 T9 D9
          refine Or.inr ⟨_, L1, _, _, KT, F9, N9, fun z1 z2 z3 z4 _ _ _ _ => ?_⟩
          obtain ⟨z3, z4⟩ := back_nil rfl z2 z3 z4
          exact hret _ _ oS oO x4 y4 tx4 ty4 n4 ps' σ newc z3 (ledger_sub z4 (st_mem (by k_mem) (by k_mem) (by k_mem) (by k_mem) (by k_mem) (by k_mem) (fun q hq => mem14 (List.mem_append_right _ (hRled q hq))) (fun q hq => mem14 (mem_code hq hRoth)))) (I0.bad (t1 := t1) (t2 := t2) (tm := tm) (nM := nM) (x := x4) (y := y4) (tx := tx4) (ty := ty4) (nn := n4) (tab'.mono fun q hq => (List.mem_append.mp hq).elim (fun h => List.mem_append_left _ h) fun h => List.mem_append_right _ (List.mem_append_left _ h)) e6 fun q hq z hz => (l7 q hq).2 z (st_mem (by k_mem) (by k_mem) (by k_mem) (by k_mem) (by k_mem) (by k_mem) (fun q hq => mem13 (hRled q hq)) (fun q hq => mem13 (hRoth q hq)) z hz)) tab' ya4 yb4
        · exact lam_add (c' := c') (oc := oc) (vs := vs) (t := t) (M := M) (dM := dM) (S := S) (oS := oS) (t1 := t1) (t2 := t2) (tm := tm) (nM := nM) (σ := σ) (num := 1 + d2) (port := 1 + d3) (way := v) (by k_mem) (mem14 (mem_code dc hRot0)) dd1 dd2 (by k_mem) (by k_mem) (by k_mem) (by k_mem) c5 (by assumption) (by assumption) (by assumption) (mem_three (by k_mem) (by k_mem) (by k_mem) (fun q hq => mem14 (List.mem_append_right _ (hRled q hq)))) hS loS nn' hl ok bad (by ktr_room) (by ktr_units)
  · unfold Stop
    have lDR := (by rename (L1 + 1 + 1 + 1 + 1 + 1 < _) ∧ _ => lD; exact lD.2.2.2.2.2.2.2.2.2.2.2)
    refine cut_bool (TakeBad σ (1 + d2) (1 + d3)) (by k_asm) (by k_asm) ?_ ?_
    · have go : GoOn := trivial
      cases hin : (valueAt (kvO σ) (1 + d2)).isSome
      · k_steps
        all_goals (try k_asm)
        all_goals exact iff_of_true (by first | exact rfl | exact trivial) (tb1 hin)
      · obtain ⟨c, hc, hnum⟩ := own_at hin
        obtain ⟨σ1, σ2, hσ⟩ := List.append_of_mem hc
        have hcs : (c.src, c.so) ∈ R := hRled _ (ledS_mem hc _ (.tail _ (.tail _ (.head _))))
        have hcl : (c.lst, lstO c) ∈ R := hRled _ (ledS_mem hc _ (.tail _ (.tail _ (.tail _ (.head _)))))
        have hc2 : (c.src2, c.so2) ∈ R := hRled _ (ledS_mem hc _ (.tail _ (.tail _ (.tail _ (.tail _ (.head _))))))
        have hRo : ∀ q ∈ (c.src, c.so) :: (c.lst, lstO c) :: (c.src2, c.so2) :: restS w σ1 c σ2 (oth ++ keep), q ∈ R := by rw [← hR, hσ]; exact fun q hq => (open_perm c.kv c.kv2 c.so c.so2).mem_iff.mpr hq
        have hRi : ∀ q ∈ R, q ∈ (c.src, c.so) :: (c.lst, lstO c) :: (c.src2, c.so2) :: restS w σ1 c σ2 (oth ++ keep) := by rw [← hR, hσ]; exact fun q hq => (open_perm c.kv c.kv2 c.so c.so2).mem_iff.mp hq
        have hcok := ok c hc
        have hcky := ky c hc
        have hso2 := hcok.so2
        have hlo2 := hcok.lo2
        have hvO : valueAt (kvO σ) (1 + d2) = some (.ref c.lst) := hnum ▸ valueAt_ses Ses.num (fun c => Value.ref c.lst) nn' hc
        rename News _ _ _ _ => N5
        replace N5 := open12 N5 hRo
        k_steps
        all_goals (try k_asm)
        all_goals first | exact ledger_sub (by assumption) (open12b hRi) | exact iff_of_true (by first | exact rfl | exact trivial) (tb2 nn' hc hnum hcok (by assumption)) | exact iff_of_false (by first | exact Bool.false_ne_true | exact id) (tb3 hc hnum hcok (by assumption))
    · intro h5 tk5 b F5 N5 hb
      k_sweep
      cases b
      · have good : ¬ TakeBad σ (1 + d2) (1 + d3) := fun x => Bool.false_ne_true (hb.mpr x)
        clear hb
        obtain ⟨c, hc, hnum, hpt⟩ := take_good good
        obtain ⟨σ1, σ2, hσ⟩ := List.append_of_mem hc
        have hcs : (c.src, c.so) ∈ R := hRled _ (ledS_mem hc _ (.tail _ (.tail _ (.head _))))
        have hcl : (c.lst, lstO c) ∈ R := hRled _ (ledS_mem hc _ (.tail _ (.tail _ (.tail _ (.head _)))))
        have hc2 : (c.src2, c.so2) ∈ R := hRled _ (ledS_mem hc _ (.tail _ (.tail _ (.tail _ (.tail _ (.head _))))))
        have hRo : ∀ q ∈ (c.src, c.so) :: (c.lst, lstO c) :: (c.src2, c.so2) :: restS w σ1 c σ2 (oth ++ keep), q ∈ R := by rw [← hR, hσ]; exact fun q hq => (open_perm c.kv c.kv2 c.so c.so2).mem_iff.mpr hq
        have hRi : ∀ q ∈ R, q ∈ (c.src, c.so) :: (c.lst, lstO c) :: (c.src2, c.so2) :: restS w σ1 c σ2 (oth ++ keep) := by rw [← hR, hσ]; exact fun q hq => (open_perm c.kv c.kv2 c.so c.so2).mem_iff.mp hq
        have ndO := ndRR
        rw [← hR, hσ] at ndO
        obtain ⟨zz1, zz2, zz3, zz4, zz5⟩ := open_nd ndO
        have zz6 : ∀ q ∈ (c.lst, lstO c) :: (c.src2, c.so2) :: restS w σ1 c σ2 (oth ++ keep), q.1 ≠ c.src := fun q hq => by
          rcases List.mem_cons.mp hq with rfl | hq
          · exact zz1.symm
          rcases List.mem_cons.mp hq with rfl | hq
          · exact zz2.symm
          exact zz4 q hq
        have hcok := ok c hc
        have hcky := ky c hc
        have hso2 := hcok.so2
        have hlo2 := hcok.lo2
        have hln2 := hcok.len2
        have hvO : valueAt (kvO σ) (1 + d2) = some (.ref c.lst) := hnum ▸ valueAt_ses Ses.num (fun c => Value.ref c.lst) nn' hc
        have u1 : @Ne Nat M c.src := fun e => oM _ hcs e.symm
        have u2 : @Ne Nat dM c.src := fun e => odM _ hcs e.symm
        have u3 : @Ne Nat S c.src := fun e => oS' _ hcs e.symm
        have u4 : @Ne Nat O c.src := fun e => oO' _ hcs e.symm
        have u5 : @Ne Nat src c.src := fun e => osrc _ hcs e.symm
        have u6 : @Ne Nat 285 c.src := fun e => otab _ hcs e.symm
        have v1 : @Ne Nat M c.src2 := fun e => oM _ hc2 e.symm
        have v2 : @Ne Nat dM c.src2 := fun e => odM _ hc2 e.symm
        have v3 : @Ne Nat S c.src2 := fun e => oS' _ hc2 e.symm
        have v4 : @Ne Nat O c.src2 := fun e => oO' _ hc2 e.symm
        have v5 : @Ne Nat src c.src2 := fun e => osrc _ hc2 e.symm
        have v6 : @Ne Nat 285 c.src2 := fun e => otab _ hc2 e.symm
        have x1 : @Ne Nat c.src (L1 + 1) := w1 _ hcs
        have x2 : @Ne Nat c.src (L1 + 1 + 1) := w2 _ hcs
        have x3z : @Ne Nat c.src (L1 + 1 + 1 + 1) := w3 _ hcs
        have x4' : @Ne Nat c.src (L1 + 1 + 1 + 1 + 1) := w4 _ hcs
        have x5 : @Ne Nat c.src (L1 + 1 + 1 + 1 + 1 + 1) := w5 _ hcs
        have x6 : @Ne Nat c.src2 (L1 + 1) := w1 _ hc2
        have x7 : @Ne Nat c.src2 (L1 + 1 + 1) := w2 _ hc2
        have x8 : @Ne Nat c.src2 (L1 + 1 + 1 + 1) := w3 _ hc2
        have x9 : @Ne Nat c.src2 (L1 + 1 + 1 + 1 + 1) := w4 _ hc2
        have x10 : @Ne Nat c.src2 (L1 + 1 + 1 + 1 + 1 + 1) := w5 _ hc2
        have q1 : @LT.lt Nat _ c.src _ := allLt_mem lDR _ hcs
        have q2 : @LT.lt Nat _ c.src2 _ := allLt_mem lDR _ hc2
        have hpt2 : (valueAt c.kv2 (1 + d3)).isSome = true := by rw [← same_isSome hcok.same]; exact hpt
        obtain ⟨vv, hvv⟩ := Option.isSome_iff_exists.mp hpt2
        replace N5 := open12 N5 hRo
        k_steps
        k_dflt (refine' take_okU (c := c) (S := S) (oS := oS) (dM := dM) (t1 := t1) (t2 := t2) (tm := tm) (nM := nM) (σ := σ) ?B ?F ?X ?N ?T ?k ?U hnum ?o5 ?m ?d ?u hS loS nn' hl ok hc hpt ?_; (case B => k_asm); (case F => k_asm); (case X => k_asm); (case N => k_asm); (case T => k_asm); (case k => first | exact rfl | assumption); (case U => k_updF); (case o5 => exact (by intro q hq; simp only [List.mem_cons, List.not_mem_nil, or_false] at hq; rcases hq with rfl | rfl | rfl | rfl | rfl; exact u1; exact u2; exact u3; exact zz4 _ (.head _); exact zz4 _ (.tail _ (.head _)))); (case m => exact mem_three (by k_mem) (by k_mem) (by k_mem) (fun q hq => mem12 (hRi q (hRled q hq)))); (case d => ktr_room); (case u => ktr_units))
        intro h6 tk6 so6 v6' F6 N6 hso6
        try dsimp only at N6
        k_sweep
        k_steps
        rename_i so7 F7 N7 hd7
        obtain ⟨ok7, ky7⟩ := upd_take hcok hcky hso6 hd7
        refine Or.inl ⟨L1, _, _, F7, N7, fun kF kN => ?_⟩
        exact hret _ _ oS oO x3 y3 tx3 ty3 n3 ps (σ1 ++ c.upd _ _ so6 so7 :: σ2) [] kF (ledger_sub kN (st_mem2 (by k_mem) (by k_mem) (by k_mem) (by k_mem) (by k_mem) (by k_mem) (fun q hq => mem12 ((open_perm _ _ so6 so7).mem_iff.mp hq)))) (Inv.upd (hσ ▸ I0) ok7 ky7) tab0 ya3 yb3
      · have bad := hb.mp rfl
        clear hb
        k_steps
        unfold Stop
        k_dflt (refine' kla_eval ?d0 ?_; (case d0 => exact rfl))
        k_dflt (refine' lam_new (oth := oth) ?F ?N ?T ?C ?cd ?U ?t ?cl ?_; (case F => k_asm); (case N => k_asm); (case T => k_asm); (case cd => exact rfl); (case C => kn_code); (case U => k_updF); (case t => exact tab0); (case cl => exact rfl))
        intro f c' oc vs t ctv h6 tk6 ps' newc F6 N60 e6 dc dd1 dd2 tab' l6 l7
        try dsimp only at N60
        have N6 := newc12 N60
        clear N60
        k_sweep
        k_steps
        unfold Stop
        k_dflt (refine' refused_spec ?hl ?B ?F ?X ?N ?T ?k XB TB D0 ?d ?u (Nat.le_refl _) (Nat.le_refl _) ?_ ?_; (case B => k_asm); (case F => k_asm); (case X => k_asm); (case N => k_asm); (case hl => k_mem); (case T => k_asm); (case k => first | exact rfl | assumption); (case d => ktr_room); (case u => ktr_units); rotate_left)
        · intro g9 h9 tk9 KT F9 N9 B9 X9 T9 D9
          refine Or.inr ⟨_, L1, _, _, KT, F9, N9, fun z1 z2 z3 z4 _ _ _ _ => ?_⟩
          obtain ⟨z3, z4⟩ := back_nil rfl z2 z3 z4
          exact hret _ _ oS oO x3 y3 tx3 ty3 n3 ps' σ newc z3 (ledger_sub z4 (st_mem (by k_mem) (by k_mem) (by k_mem) (by k_mem) (by k_mem) (by k_mem) (fun q hq => mem13 (List.mem_append_right _ (hRled q hq))) (fun q hq => mem13 (mem_code hq hRoth)))) (I0.bad (t1 := t1) (t2 := t2) (tm := tm) (nM := nM) (x := x3) (y := y3) (tx := tx3) (ty := ty3) (nn := n3) (tab'.mono fun q hq => (List.mem_append.mp hq).elim (fun h => List.mem_append_left _ h) fun h => List.mem_append_right _ (List.mem_append_left _ h)) e6 fun q hq z hz => (l7 q hq).2 z (st_mem (by k_mem) (by k_mem) (by k_mem) (by k_mem) (by k_mem) (by k_mem) (fun q hq => mem12 (hRled q hq)) (fun q hq => mem12 (hRoth q hq)) z hz)) tab' ya3 yb3
        · exact lam_take (c' := c') (oc := oc) (vs := vs) (t := t) (M := M) (dM := dM) (S := S) (oS := oS) (t1 := t1) (t2 := t2) (tm := tm) (nM := nM) (σ := σ) (num := 1 + d2) (port := 1 + d3) (by k_mem) (mem13 (mem_code dc hRot0)) dd1 dd2 (by k_mem) (by k_mem) (by k_mem) c5 (by assumption) (by assumption) (mem_three (by k_mem) (by k_mem) (by k_mem) (fun q hq => mem13 (List.mem_append_right _ (hRled q hq)))) hS loS nn' hl ok bad (by ktr_room) (by ktr_units)
  · unfold Stop
    have go : GoOn := trivial
    cases hin : (valueAt (kvO σ) (1 + d2)).isSome
    · have bad := not_own hin
      k_steps
      unfold Stop
      k_dflt (refine' kla_eval ?d0 ?_; (case d0 => exact rfl))
      k_dflt (refine' lam_new (oth := oth) ?F ?N ?T ?C ?cd ?U ?t ?cl ?_; (case F => k_asm); (case N => k_asm); (case T => k_asm); (case cd => exact rfl); (case C => kn_code); (case U => k_updF); (case t => exact tab0); (case cl => exact rfl))
      intro f c' oc vs t ctv h6 tk6 ps' newc F6 N60 e6 dc dd1 dd2 tab' l6 l7
      try dsimp only at N60
      have N6 := newc12 N60
      clear N60
      k_sweep
      k_steps
      unfold Stop
      k_dflt (refine' refused_spec ?hl ?B ?F ?X ?N ?T ?k XB TB D0 ?d ?u (Nat.le_refl _) (Nat.le_refl _) ?_ ?_; (case B => k_asm); (case F => k_asm); (case X => k_asm); (case N => k_asm); (case hl => k_mem); (case T => k_asm); (case k => first | exact rfl | assumption); (case d => ktr_room); (case u => ktr_units); rotate_left)
      · intro g9 h9 tk9 KT F9 N9 B9 X9 T9 D9
        refine Or.inr ⟨_, L1, _, _, KT, F9, N9, fun z1 z2 z3 z4 _ _ _ _ => ?_⟩
        obtain ⟨z3, z4⟩ := back_nil rfl z2 z3 z4
        exact hret _ _ oS oO x3 y3 tx3 ty3 n3 ps' σ newc z3 (ledger_sub z4 (st_mem (by k_mem) (by k_mem) (by k_mem) (by k_mem) (by k_mem) (by k_mem) (fun q hq => mem13 (List.mem_append_right _ (hRled q hq))) (fun q hq => mem13 (mem_code hq hRoth)))) (I0.bad (t1 := t1) (t2 := t2) (tm := tm) (nM := nM) (x := x3) (y := y3) (tx := tx3) (ty := ty3) (nn := n3) (tab'.mono fun q hq => (List.mem_append.mp hq).elim (fun h => List.mem_append_left _ h) fun h => List.mem_append_right _ (List.mem_append_left _ h)) e6 fun q hq z hz => (l7 q hq).2 z (st_mem (by k_mem) (by k_mem) (by k_mem) (by k_mem) (by k_mem) (by k_mem) (fun q hq => mem12 (hRled q hq)) (fun q hq => mem12 (hRoth q hq)) z hz)) tab' ya3 yb3
      · exact lam_remove (c' := c') (oc := oc) (vs := vs) (t := t) (M := M) (dM := dM) (S := S) (oS := oS) (t1 := t1) (t2 := t2) (tm := tm) (nM := nM) (σ := σ) (num := 1 + d2) (by k_mem) (mem13 (mem_code dc hRot0)) dd1 dd2 (by k_mem) (by k_mem) c5 (by assumption) (mem_three (by k_mem) (by k_mem) (by k_mem) (fun q hq => mem13 (List.mem_append_right _ (hRled q hq)))) hS loS nn' hl ok bad (by ktr_room) (by ktr_units)
    · obtain ⟨c, hc, hnum⟩ := own_at hin
      have hvO : valueAt (kvO σ) (1 + d2) = some (.ref c.lst) := hnum ▸ valueAt_ses Ses.num (fun c => Value.ref c.lst) nn' hc
      k_steps
      k_dflt (refine' remove_okU (S := S) (oS := oS) (dM := dM) (t1 := t1) (t2 := t2) (tm := tm) (nM := nM) (σ := σ) ?B ?F ?X ?N ?T ?k ?U ?m nMS ndS ?d ?u hS loS hl hin ?_; (case B => k_asm); (case F => k_asm); (case X => k_asm); (case N => k_asm); (case T => k_asm); (case k => first | exact rfl | assumption); (case U => k_updF); (case m => exact mem_two (by k_mem) (by k_mem) (fun q hq => by cases hq)); (case d => ktr_room); (case u => ktr_units))
      intro h6 tk6 oS6 v6' F6 N6 hS6
      try dsimp only at N6
      k_sweep
      k_steps
      rename_i oO7 F7 N7 hd7
      refine Or.inl ⟨L1, _, _, F7, N7, fun kF kN => ?_⟩
      exact hret _ _ oS6 oO7 x3 y3 tx3 ty3 n3 ps (σ.filter fun c => c.num ≠ 1 + d2) [] kF (ledger_sub kN (st_mem (by k_mem) (by k_mem) (by k_mem) (by k_mem) (by k_mem) (by k_mem) (fun q hq => mem12 (hRled q (led_remove q hq))) (fun q hq => mem12 (hRoth q hq)))) (I0.remove hS6 hd7) tab0 ya3 yb3

end
end Mine
end

section
open PySem PySem.W PyProof.Rows PySem.Calls PyProof.Rows.LCg PyProof.Rows.LCt
set_option Elab.async false
set_option maxRecDepth 100000
set_option maxHeartbeats 8000000
namespace Mine
theorem lnC1_0 : True := by
  k_with_none
  w_top off
  k_with "pk" => first | exact pk1 | exact pk2 | exact pk3 | exact pk4 | (refine pkS ?_; k_extra "pk")
  k_with "ne" => (refine neN ?_; (try dsimp only); with_reducible first | assumption | exact .symm (by assumption) | exact pk2 (by assumption) | exact pk4 (by assumption) | (refine pkH (by assumption) ?_; k_extra "pk") | (refine pkL (by assumption) ?_; k_extra "pk") | fail)
  k_with "room" => first | exact rmA (by assumption) rfl | exact rmB (by assumption) rfl | exact rmC (by assumption) rfl | fail
  trivial
section
variable {prog : Program} {w : World} {p : Program} {loose : List Str} {mean : ExcName → Option Value} {mg mb : Str → Option Value} {dp un : Nat} {gd : Option (List Code)} {cn : Str} {cs : Scope} {a : Addr} {ccd : Value} {cl : List (Str × Addr)} {outer : List Env} {A₀ : Around} {base h₀ : Heap} {L : Addr} {m : Str → Option Value} {s : Shared} {Q E : Value → Shared → Prop} {news : List (Addr × Obj)}


theorem lnC1_1 : True := by
  k_with "exec Raise some none" => (k_here; k_dflt (refine raise_own (by rfl) ?_))
  k_with "call ref" => (k_here; (with_reducible show wpAny _ _ (call (Value.ref 51) _) _ _ _); (refine' exc_make ?BQ224 ?FQ224 ?XQ224 ?NQ224 ?TQ224 ?kQ224 ?dQ224 ?uQ224 ?_; (case BQ224 => k_asm); (case FQ224 => k_asm); (case XQ224 => k_asm); (case NQ224 => k_asm); (case TQ224 => k_asm); (case kQ224 => first | exact rfl | assumption); (case dQ224 => ktr_room); (case uQ224 => ktr_units)); intro h' tk' e' t1' d1' F' N' o1' o2' o3'; revert h' tk' e' t1' d1' F' N' o1' o2' o3'; intro _ _ _ _ _ _ _ _ _ _)
  k_with "RaisableX" => (k_here; refine ⟨_, _, _, rfl, (‹News _ _ _ ((_, excOd _ _) :: _)› _ (.head _)).1, rfl, rfl, rfl, Frag.In.keeps (by k_asm) (Fr.keep (by k_asm)), ?_⟩)
  k_with "leaving ref" => (k_here; (refine' leave_raiseZ ?BQ226 ?FQ226 ?NQ226 ?o1Q226 ?o2Q226 ?o3Q226 ?_; (case BQ226 => k_asm); (case FQ226 => k_asm); (case NQ226 => k_asm); (case o1Q226 => assumption); (case o2Q226 => assumption); (case o3Q226 => assumption)); intro h' R' U'; (try dsimp only at R' U' ⊢); revert h' R' U'; intro _ _ _)
  k_with "leaving ref" => (k_here; (refine' leave_onS ?k1Q227 ?k2Q227 ?k3Q227 ?k4Q227 ?_; (case k3Q227 => assumption); (case k1Q227 => assumption); (case k4Q227 => assumption); (case k2Q227 => assumption); k_whole; intro h' R' K' U'; (try dsimp only at R' U' ⊢); revert h' R' K' U'; intro _ _ _ _))
  trivial
theorem one_way {src th : Addr} {x y : Int} {tx ty ta tb : Tok} {n nt : Nat} {g : Obj → List (Addr × Obj)}
    (B : Below A₀ base outer h₀) (F : Fr h₀ L s.heap m) (X : (pre.heap_1 w.params).In h₀) (N : News h₀ L s.heap news) (T : Top p loose mean mg mb h₀) (hk : cs.kind = .function) (U : UpdF src (listOf #[.int x tx, .int y ty] n) news g)
    (hth : (th, listOf #[.str (Str.ofString "in") ta, .str (Str.ofString "out") tb] nt) ∈ news) (hth2 : ∀ o', (th, listOf #[.str (Str.ofString "in") ta, .str (Str.ofString "out") tb] nt) ∈ g o')
    (hd : dp + 210 < recursionLimit) (hu : un + 18 < cLine) (hy0 : 0 ≤ y) (hy1 : y < 2147483647)
    (hret : ∀ (xw : Str) (tw : Tok) (x' y' : Int) (tx' ty' : Tok) (n' : Nat) (h' : Heap) (tk' : Nat), 0 ≤ y' → y' < 2147483647 → Fr h₀ L h' m → News h₀ L h' (g (listOf #[.int x' tx', .int y' ty'] n')) → Q (.str xw tw) { s with heap := h', toks := tk' }) :
    wpAny (model prog w) (ktrTop dp un gd cn cs L a ccd cl outer) (call (.ref 261) [.ref src, .ref th]) Q E s := by
  refine one_spec (vs := [.str (Str.ofString "in") ta, .str (Str.ofString "out") tb]) B F X N T hk U hth hth2 hd hu (by simp) (by simp) hy0 hy1 fun i hi x' y' tx' ty' n' h' tk' a b c d => ?_
  match i, hi with
  | 0, _ => exact hret _ _ x' y' tx' ty' n' h' tk' a b c d
  | 1, _ => exact hret _ _ x' y' tx' ty' n' h' tk' a b c d

theorem lnC1_2 : True := by
  k_with "call ref" => (k_here; (with_reducible show wpAny _ _ (call (Value.ref 254) _) _ _ _); k_dflt (refine' take_specU ?BQ228 ?FQ228 ?XQ228 ?NQ228 ?TQ228 ?kQ228 ?UQ228 ?dQ228 ?uQ228 ?t1Q228 ?t2Q228 ?y0Q228 ?y1Q228 ?_; (case BQ228 => k_asm); (case FQ228 => k_asm); (case XQ228 => k_asm); (case NQ228 => k_asm); (case TQ228 => k_asm); (case kQ228 => first | exact rfl | assumption); (case UQ228 => k_updF); (case dQ228 => ktr_room); (case uQ228 => ktr_units); (case t1Q228 => decide); (case t2Q228 => decide); (case y0Q228 => assumption); (case y1Q228 => assumption)); intro d' t' x' y' tx' ty' n' h' tk' a1' a2' a3' a4' F' N'; (try dsimp only at N'); revert d' t' x' y' tx' ty' n' h' tk' a1' a2' a3' a4' F' N'; intro _ _ _ _ _ _ _ _ _ _ _ _ _ _ _)
  k_with "call ref" => (k_here; (with_reducible show wpAny _ _ (call (Value.ref 261) _) _ _ _); k_dflt (refine' one_way ?BQ229 ?FQ229 ?XQ229 ?NQ229 ?TQ229 ?kQ229 ?UQ229 ?h1Q229 ?h2Q229 ?dQ229 ?uQ229 ?y0Q229 ?y1Q229 ?_; (case BQ229 => k_asm); (case FQ229 => k_asm); (case XQ229 => k_asm); (case NQ229 => k_asm); (case TQ229 => k_asm); (case kQ229 => first | exact rfl | assumption); (case UQ229 => k_updF); (case h1Q229 => k_mem); (case h2Q229 => intro o; (try dsimp only); k_mem); (case dQ229 => ktr_room); (case uQ229 => ktr_units); (case y0Q229 => assumption); (case y1Q229 => assumption)); intro v' tw' x' y' tx' ty' n' h' tk' a3' a4' F' N'; (try dsimp only at N'); revert v' tw' x' y' tx' ty' n' h' tk' a3' a4' F' N'; intro _ _ _ _ _ _ _ _ _ _ _ _ _)
  trivial

theorem lnC1_3 : True := by
  k_with "call ref" => (k_here; (first | (with_reducible show wpAny _ _ (call (Value.ref 77) _) _ _ _) | (with_reducible show wpAny _ _ (call (Value.ref 111) _) _ _ _)); k_dflt ((refine' call_cls ?k1Q230 ?k2Q230 ?k3Q230 ?k4Q230 ?k5Q230 ?k6Q230 ?_; (case k1Q230 => k_asm); (case k2Q230 => k_asm); (case k3Q230 => k_asm); (case k4Q230 => k_is); (case k5Q230 => k_is); (case k6Q230 => k_is); k_whole; intro x' d' h' F' N' l1 l2; (try k_lt l1); (try k_lt2 l2); (try k_sweep); revert x' d' h' F' N' l1 l2; intro _ _ _ _ _ _ _); (refine' code_def ?k1Q251 ?k2Q251 ?k3Q251 ?k4Q251 ?k5Q251 ?kAQ251 ?kFQ251 ?kKQ251 ?k6Q251 ?k7Q251 ?k8Q251 ?k9Q251 ?kBQ251 ?_ ?c2Q251 ?c3Q251 ?c4Q251 ?c5Q251; (case kAQ251 => exact rfl); (case kFQ251 => exact rfl); (case kKQ251 => first | exact rfl | assumption); (case k1Q251 => k_asm); (case k2Q251 => k_asm); (case k3Q251 => k_asm); (case k4Q251 => k_asm); (case k5Q251 => k_asm); (case k6Q251 => k_is); (case k7Q251 => k_is); (case k8Q251 => ktr_room); (case k9Q251 => first | exact BindsTo.of_eq rfl | exact binds_K (by k_in) rfl (by k_is) rfl rfl rfl); (case c5Q251 => decide); (case kBQ251 => exact locs rfl); (case c2Q251 => exact rfl); (case c3Q251 => exact rfl); (case c4Q251 => exact rfl); k_whole; intro g' L' h' FG' F' N' B' X' T'; (try dsimp only); (try k_fold); revert g' L' h' FG' F' N' B' X' T'; intro _ _ _ _ _ _ _ _ _)))
  k_with "call type:bytes" => (k_here; (with_reducible show wpAny _ _ (call (Value.type "bytes") [Value.bytes _ _]) _ _ _); refine call_bytes_same ?_)
  trivial
noncomputable def GoOn1 : Prop := True
theorem lnC1_4 : True := by
  k_with "eval IfExp" => (k_here; (fail_if_success (with_reducible rename GoOn1 => goX)); refine Stop.go ?_)
  k_with "call builtin:sorted" => (k_here; (with_reducible show wpAny _ _ (call (Value.builtin "sorted") [Value.ref _]) _ _ _); (refine' sorted_dict ?hhQ233 ?FQ233 ?NQ233 ?pQ233 ?dQ233 ?lQ233 ?zQ233 ?_; (case hhQ233 => rfl); (case FQ233 => k_asm); (case NQ233 => k_asm); (case pQ233 => k_mem); (case dQ233 => assumption); (case lQ233 => assumption); (case zQ233 => rw [List.length_map]; omega)); intro B' h' tk' vs' ns' c' F' N' l1 hI hP hO; (try k_lt l1); revert B' h' tk' vs' ns' c' F' N' l1 hI hP hO; intro _ _ _ _ _ _ _ _ _ _ _ _; refine Stop.go ?_)
  trivial
theorem frame_packed {w : World} {h : Heap} {fi fd ft : Addr} {q1 q2 q3 q4 q5 p1 p2 p4 p5 : Tok} {v1 v2 v4 : Int} {v5 : Array UInt8} {n5 : Nat} {gs : List Tg} {rest : List (Addr × Obj)}
    (N : News h₀ L h ((fi, instObj 111 fd) :: (fd, dictOf [⟨PyData.keyHash w.params (Str.ofString "target"), .str (Str.ofString "target") q1, .int v1 p1⟩, ⟨PyData.keyHash w.params (Str.ofString "source"), .str (Str.ofString "source") q2, .int v2 p2⟩, ⟨PyData.keyHash w.params (Str.ofString "tags"), .str (Str.ofString "tags") q3, .ref ft⟩, ⟨PyData.keyHash w.params (Str.ofString "kind"), .str (Str.ofString "kind") q4, .int v4 p4⟩, ⟨PyData.keyHash w.params (Str.ofString "payload"), .str (Str.ofString "payload") q5, .bytes v5 p5⟩] n5) ::
      (ft, tupO (List.map (fun g : Tg => Value.ref g.inst) gs)) :: rest)) :
    ∃ f : Frm, fi = f.inst ∧ fd = f.dict ∧ ft = f.tup ∧ gs = f.tags ∧ News h₀ L h ((f.inst, instObj 111 f.dict) :: (f.dict, frmD w f) :: (f.tup, tupO (f.tags.map fun t => .ref t.inst)) :: rest) :=
  ⟨⟨fi, fd, ft, v1, v2, v4, v5, p1, p2, p4, p5, q1, q2, q3, q4, q5, n5, gs⟩, rfl, rfl, rfl, rfl, N⟩
theorem mid_add {h₀ : Heap} {L : Addr} {h : Heap} {x y a1 a2 a3 a4 a5 a6 a7 a8 a9 a10 a11 : Addr × Obj} {nc R : List (Addr × Obj)} (N : News h₀ L h (x :: y :: (nc ++ (a1 :: a2 :: a3 :: a4 :: a5 :: a6 :: a7 :: a8 :: a9 :: a10 :: a11 :: R)))) : News h₀ L h (x :: y :: a1 :: a2 :: a3 :: a4 :: a5 :: a6 :: a7 :: a8 :: a9 :: a10 :: a11 :: (nc ++ R)) := ledger_sub N (cons_sub (cons_sub (mid_swap (pre := [a1, a2, a3, a4, a5, a6, a7, a8, a9, a10, a11]))))
theorem front3 {h₀ : Heap} {L : Addr} {h : Heap} {x1 x2 x3 : Addr × Obj} {r : List (Addr × Obj)} (N : News h₀ L h (x1 :: x2 :: x3 :: r)) : News h₀ L h (x3 :: x1 :: x2 :: r) := ledger_sub N (by (repeat (refine List.forall_mem_cons.mpr ⟨(by repeat (first | exact List.Mem.head _ | refine List.Mem.tail _ ?_)), ?_⟩)); (first | exact List.forall_mem_nil _ | (intro q hq; repeat (first | exact hq | refine List.Mem.tail _ ?_))))
theorem lnC1_5 : True := by
  k_with "call ref" => (k_here; (with_reducible show wpAny _ _ (call (Value.ref 266) _) _ _ _); refine Stop.go ?_)
  trivial
theorem tag_packed {w : World} {h : Heap} {D ti td : Addr} {p1 p2 p3 p4 u1 u2 u4 : Tok} {v1 v2 v4 : Int} {b : Bool} {n4 : Nat} {a1 a2 a3 a4 a5 a6 a7 a8 : Addr × Obj} {R : List (Addr × Obj)}
    (N : News h₀ L h ((D, { cls := .type "tuple", data := .seq #[.ref ti] }) :: (ti, instObj 77 td) :: (td, dictOf [⟨PyData.keyHash w.params (Str.ofString "kind"), .str (Str.ofString "kind") p1, .int v1 u1⟩, ⟨PyData.keyHash w.params (Str.ofString "priority"), .str (Str.ofString "priority") p2, .int v2 u2⟩, ⟨PyData.keyHash w.params (Str.ofString "may_drop"), .str (Str.ofString "may_drop") p3, .bool b⟩, ⟨PyData.keyHash w.params (Str.ofString "vlan"), .str (Str.ofString "vlan") p4, .int v4 u4⟩] n4) :: a1 :: a2 :: a3 :: a4 :: a5 :: a6 :: a7 :: a8 :: R)) :
    ∃ g : Tg, ti = g.inst ∧ td = g.dict ∧ News h₀ L h ((D, tupO (List.map (fun g : Tg => Value.ref g.inst) [g])) :: a1 :: a2 :: a3 :: a4 :: a5 :: a6 :: a7 :: a8 :: (g.inst, instObj 77 g.dict) :: (g.dict, tagD w g) :: R) :=
  ⟨⟨ti, td, v1, v2, b, v4, u1, u2, u4, p1, p2, p3, p4, n4⟩, rfl, rfl, ledger_sub N (by (repeat (refine List.forall_mem_cons.mpr ⟨(by repeat (first | exact List.Mem.head _ | refine List.Mem.tail _ ?_)), ?_⟩)); (first | exact List.forall_mem_nil _ | (intro q hq; repeat (first | exact hq | refine List.Mem.tail _ ?_))))⟩
noncomputable def TagsPost (w : World) (h₀ : Heap) (L : Addr) (m : Str → Option Value) (s : Shared) (a1 a2 a4 a5 a6 a7 a8 : Addr × Obj) (R : List (Addr × Obj)) (src : Addr) (v : Value) (s' : Shared) : Prop :=
  ∃ h' tk D gs R' x y tx ty n, v = .ref D ∧ s' = { s with heap := h', toks := tk } ∧ 0 ≤ y ∧ y < 2147483647 ∧ Fr h₀ L h' m ∧ News h₀ L h' ((D, tupO (List.map (fun g : Tg => Value.ref g.inst) gs)) :: a1 :: a2 :: (src, listOf #[.int x tx, .int y ty] n) :: a4 :: a5 :: a6 :: a7 :: a8 :: R') ∧ (gs = [] ∨ ∃ g, gs = [g]) ∧ (∀ q ∈ R, q ∈ R') ∧ (∀ g ∈ gs, ∀ q ∈ Tg.led w g, q ∈ R') ∧ (∀ q ∈ R', q.1 ≠ src) ∧ (@Ne Nat D src)
theorem TagsPost.intro {w : World} {a1 a2 a4 a5 a6 a7 a8 : Addr × Obj} {R R' : List (Addr × Obj)} {src D : Addr} {gs : List Tg} {x y : Int} {tx ty : Tok} {n tk : Nat} {h' : Heap} (F : Fr h₀ L h' m) (N : News h₀ L h' ((D, tupO (List.map (fun g : Tg => Value.ref g.inst) gs)) :: a1 :: a2 :: (src, listOf #[.int x tx, .int y ty] n) :: a4 :: a5 :: a6 :: a7 :: a8 :: R')) (y0 : 0 ≤ y) (y1 : y < 2147483647) (h1 : gs = [] ∨ ∃ g, gs = [g]) (h2 : ∀ q ∈ R, q ∈ R') (h3 : ∀ g ∈ gs, ∀ q ∈ Tg.led w g, q ∈ R') (h4 : ∀ q ∈ R', q.1 ≠ src) (h5 : @Ne Nat D src) :
    TagsPost w h₀ L m s a1 a2 a4 a5 a6 a7 a8 R src (.ref D) { s with heap := h', toks := tk } := ⟨h', tk, D, gs, R', x, y, tx, ty, n, rfl, rfl, y0, y1, F, N, h1, h2, h3, h4, h5⟩
theorem cut_tags {MM : Model} {A : Around} {t : Sem Value} {a1 a2 a4 a5 a6 a7 a8 : Addr × Obj} {R : List (Addr × Obj)} {src : Addr} {o0 : Obj} (F : Fr h₀ L s.heap m) (N : News h₀ L s.heap (a1 :: a2 :: (src, o0) :: a4 :: a5 :: a6 :: a7 :: a8 :: R))
    (hw : wpAny MM A t (TagsPost w h₀ L m s a1 a2 a4 a5 a6 a7 a8 R src) E s)
    (hq : ∀ h' tk D gs R' x y tx ty n, 0 ≤ y → y < 2147483647 → Fr h₀ L h' m → News h₀ L h' ((D, tupO (List.map (fun g : Tg => Value.ref g.inst) gs)) :: a1 :: a2 :: (src, listOf #[.int x tx, .int y ty] n) :: a4 :: a5 :: a6 :: a7 :: a8 :: R') → (gs = [] ∨ ∃ g, gs = [g]) → (∀ q ∈ R, q ∈ R') → (∀ g ∈ gs, ∀ q ∈ Tg.led w g, q ∈ R') → (∀ q ∈ R', q.1 ≠ src) → (@Ne Nat D src) → Q (.ref D) { s with heap := h', toks := tk }) : wpAny MM A t Q E s := by
  refine wpAny_mono hw (fun v s' hx => ?_) fun _ _ y => y
  obtain ⟨h', tk, D, gs, R', x, y, tx, ty, n, rfl, rfl, c1, c2, c3, c4, c5, c6, c7, c8, c9⟩ := hx
  exact hq h' tk D gs R' x y tx ty n c1 c2 c3 c4 c5 c6 c7 c8 c9

theorem in_none_list {A : Around} {a : Addr} {n : Nat} {x y : Str} {tx ty : Tok} {Q : Value → Shared → Prop} (N : News h₀ L s.heap news) (hp : (a, listOf #[.str x tx, .str y ty] n) ∈ news) (h : Q (.bool false) s) :
    wpAny (model prog w) A (compareOp .In .none (.ref a)) Q E s :=
  SeqAt.in_listAt (fun _ => false) (⟨_, (N _ hp).1, rfl, _, rfl⟩ : s.heap.IsList a #[.str x tx, .str y ty]) (fun v hv => by
    simp only [List.mem_toArray, Array.mem_toList_iff, Array.mem_def, List.mem_cons, List.not_mem_nil, or_false] at hv
    rcases hv with rfl | rfl
    · exact SeqAt.EqAt.str_none _ _
    · exact SeqAt.EqAt.str_none _ _) (by simpa using h)
theorem lnC1_6 : True := by
  k_with "compareOp In none ref" => (k_here; k_dflt (refine in_none_list (by k_asm) (by k_mem) ?_))
  trivial
theorem not_stored {z : Str} (hs : [Str.ofString "goal", Str.ofString "vlan", Str.ofString "sources", Str.ofString "copied"].contains z = false) : z ≠ Str.ofString "goal" ∧ z ≠ Str.ofString "vlan" ∧ z ≠ Str.ofString "sources" ∧ z ≠ Str.ofString "copied" := by
  refine ⟨?_, ?_, ?_, ?_⟩
  all_goals
    rintro rfl
    exact absurd hs (by decide +kernel)
theorem mem_cst {x1 D : Addr × Obj} {q b a2 a3 a4 a5 a6 : Addr × Obj} {REST tl own R1 : List (Addr × Obj)} (hR : (b :: REST) ++ (tl ++ own) = R1) (hq : q ∈ [D] ++ ((b :: REST) ++ ([] ++ tl))) : q ∈ x1 :: D :: a2 :: a3 :: a4 :: a5 :: a6 :: R1 := by
  subst hR
  simp only [List.cons_append, List.nil_append, List.mem_cons, List.mem_append, List.not_mem_nil, false_or] at hq ⊢
  rcases hq with h | h | h | h <;> simp [h]
theorem mem_own {x1 D : Addr × Obj} {q b a2 a3 a4 a5 a6 : Addr × Obj} {REST tl own R1 : List (Addr × Obj)} (hR : (b :: REST) ++ (tl ++ own) = R1) (hq : q ∈ own) : q ∈ x1 :: D :: a2 :: a3 :: a4 :: a5 :: a6 :: R1 := by
  subst hR
  simp [hq]

theorem lnC1_7 : True := by
  k_with "call builtin:list.append" => (k_here; (with_reducible show wpAny _ _ (call (Value.builtin _) [Value.ref _, _]) _ _ _); k_dflt (refine' append_U ?FQ236 ?NQ236 ?UQ236 ?zQ236 ?_; (case FQ236 => k_asm); (case NQ236 => k_asm); (case UQ236 => k_updF); (case zQ236 => assumption)); intro h' F' N'; (try dsimp only at N'); revert h' F' N'; intro _ _ _)
  k_with "binaryOp Add ref ref" => (k_here; k_dflt (refine' join_lists ?FQ237 ?NQ237 ?aQ237 ?bQ237 ?zQ237 ?_; (case FQ237 => k_asm); (case NQ237 => k_asm); (case aQ237 => k_mem); (case bQ237 => k_mem); (case zQ237 => (try simp only [List.length_cons, List.length_nil]); omega)); intro D' h' F' N' l1; (try k_lt l1); revert D' h' F' N' l1; intro _ _ _ _ _)
  k_with "getItem ref int" => (k_here; (with_reducible show wpAny _ _ (getItem (Value.ref _) (Value.int _ _)) _ _ _); (refine' dict_getitem (knd := PySem.intKind _ _) (intKind_is _ _ _ _) ?NQ238 ?hQ238 ?dQ238 ?lQ238 ?_; (case NQ238 => k_asm); (case hQ238 => k_mem); (case dQ238 => k_asm); (case lQ238 => assumption)))
  k_with "call builtin:dict.get" => (k_here; k_dflt (refine kdg_get1 (knd := PySem.intKind _ _) (by k_asm) (by k_mem) (by assumption) (by assumption) (intKind_is _ _ _ _) _ (by assumption) ?_); (try dsimp only [Option.getD]))
  k_with "getMethod ref" => (k_here; (with_reducible show wpAny _ _ (getMethod (Value.ref _) (Str.ofString "get") _) _ _ _); k_dflt (refine kdg_method (knd := PySem.intKind _ _) (by k_asm) (by k_mem) (by assumption) ?_))
  k_with "subscriptTail" => (k_here; k_dflt ((with_reducible show wpAny _ _ (subscriptTail _ _ (Value.ref _) (Value.int _ _)) _ _ _); refine kda_item (knd := PySem.intKind _ _) (by k_asm) (by k_mem) (by k_asm) (intKind_is _ _ _ _) (by assumption) ?_))
  k_with "exec Assign cons ListComp" => (k_here; k_dflt (refine assign_pairs (by k_asm) (by with_unfolding_all rfl) (by with_unfolding_all rfl) (by with_unfolding_all rfl) (by decide) (by rfl) (by decide) (by rfl) (by rfl) (by decide) (by rfl) (by rfl) ?_))
  k_with "call ref" => (k_here; (with_reducible show wpAny _ _ (call (Value.ref 233) _) _ _ _); refine Stop.go ?_)
  k_with "compareOp NotEq ref ref" => (k_here; refine Stop.go ?_)
  k_with "compareOp Eq ref ref" => (k_here; refine Stop.go ?_)
  k_with "compareOp In int ref" => (k_here; k_dflt (refine' in_list_ints ?aQ246 ?iQ246 ?_; (case aQ246 => exact lst_is9 (by k_asm) (by k_mem)); (case iQ246 => assumption)))
  k_with "call ref" => (k_here; (with_reducible show wpAny _ _ (call (Value.ref 185) _) _ _ _); k_dflt (refine' is_goal_spec ?BQ247 ?FQ247 ?XQ247 ?NQ247 ?TQ247 ?kQ247 ?mQ247 ?dQ247 ?uQ247 ?SQ247 ?lQ247 ?nQ247 ?lenQ247 ?_; (case BQ247 => k_asm); (case FQ247 => k_asm); (case XQ247 => k_asm); (case NQ247 => k_asm); (case TQ247 => k_asm); (case kQ247 => first | exact rfl | assumption); (case SQ247 => assumption); (case mQ247 => exact mem_three (by k_mem) (by k_mem) (by k_mem) (by intro q hq; (repeat apply List.Mem.tail); exact led_sub9 (by assumption) (by assumption))); (case dQ247 => ktr_room); (case uQ247 => ktr_units); (case lQ247 => assumption); (case nQ247 => assumption); (case lenQ247 => assumption)); intro h' tk' F' N'; revert h' tk' F' N'; intro _ _ _ _)
  k_with "call ref" => (k_here; (with_reducible show wpAny _ _ (call (Value.ref 190) _) _ _ _); k_dflt (refine' is_source_spec ?BQ248 ?FQ248 ?XQ248 ?NQ248 ?TQ248 ?kQ248 ?mQ248 ?dQ248 ?uQ248 ?SQ248 ?lQ248 ?nQ248 ?lenQ248 ?okQ248 ?_; (case BQ248 => k_asm); (case FQ248 => k_asm); (case XQ248 => k_asm); (case NQ248 => k_asm); (case TQ248 => k_asm); (case kQ248 => first | exact rfl | assumption); (case SQ248 => assumption); (case mQ248 => exact mem_three (by k_mem) (by k_mem) (by k_mem) (by intro q hq; (repeat apply List.Mem.tail); exact led_sub9 (by assumption) (by assumption))); (case dQ248 => ktr_room); (case uQ248 => ktr_units); (case lQ248 => assumption); (case nQ248 => assumption); (case lenQ248 => assumption); (case okQ248 => assumption)); intro h' tk' F' N'; revert h' tk' F' N'; intro _ _ _ _)
  k_with "call ref" => (k_here; (with_reducible show wpAny _ _ (call (Value.ref 278) _) _ _ _); k_dflt (refine' goals_spec ?BQ249 ?FQ249 ?XQ249 ?NQ249 ?TQ249 ?kQ249 ?mQ249 ?dQ249 ?uQ249 ?OQ249 ?lQ249 ?nQ249 ?lenQ249 ?_; (case BQ249 => k_asm); (case FQ249 => k_asm); (case XQ249 => k_asm); (case NQ249 => k_asm); (case TQ249 => k_asm); (case kQ249 => first | exact rfl | assumption); (case OQ249 => assumption); (case mQ249 => refine led_mem9 (by k_mem) ?_; intro q hq; (repeat apply List.Mem.tail); exact led_sub9 (by assumption) (by assumption)); (case dQ249 => ktr_room); (case uQ249 => ktr_units); (case lQ249 => assumption); (case nQ249 => assumption); (case lenQ249 => assumption)); intro h' tk' D' ys' F' N' hI' lD'; revert h' tk' D' ys' F' N' hI' lD'; intro _ _ _ _ _ _ _ _)
  k_with "call ref" => (k_here; (with_reducible show wpAny _ _ (call (Value.ref 283) _) _ _ _); k_dflt (refine' sources_spec ?BQ250 ?FQ250 ?XQ250 ?NQ250 ?TQ250 ?kQ250 ?mQ250 ?dQ250 ?uQ250 ?OQ250 ?lQ250 ?nQ250 ?lenQ250 ?okQ250 ?_; (case BQ250 => k_asm); (case FQ250 => k_asm); (case XQ250 => k_asm); (case NQ250 => k_asm); (case TQ250 => k_asm); (case kQ250 => first | exact rfl | assumption); (case OQ250 => assumption); (case mQ250 => refine led_mem9 (by k_mem) ?_; intro q hq; (repeat apply List.Mem.tail); exact led_sub9 (by assumption) (by assumption)); (case dQ250 => ktr_room); (case uQ250 => ktr_units); (case lQ250 => assumption); (case nQ250 => assumption); (case lenQ250 => assumption); (case okQ250 => assumption)); intro h' tk' D' ys' F' N' hI' lD'; revert h' tk' D' ys' F' N' hI' lD'; intro _ _ _ _ _ _ _ _)
  trivial
theorem right_spec {M dM S O src : Addr} {oS oO : Obj} {t1 t2 tm : Tok} {nM : Nat} {σ : List Ses} {x y : Int} {tx ty : Tok} {nn : Nat} {ps : Array Value} {oth : List (Addr × Obj)}
    (B : Below A₀ base outer h₀) (F : Fr h₀ L s.heap m) (X : (pre.heap_1 w.params).In h₀) (T : Top p loose mean mg mb h₀) (hk : cs.kind = .function)
    (N0 : News h₀ L s.heap (stLed w M dM S O src t1 t2 tm nM oS oO x y tx ty nn ps σ oth)) (I : Inv prog w M dM S O src oS oO ps σ oth) (hy0 : 0 ≤ y) (hy1 : y < 2147483647)
    (hd : dp + 500 < recursionLimit) (hu : un + 500 < cLine)
    (hret : ∀ h' tk x' y' tx' ty' nn', Fr h₀ L h' m → News h₀ L h' (stLed w M dM S O src t1 t2 tm nM oS oO x' y' tx' ty' nn' ps σ oth) → 0 ≤ y' → y' < 2147483647 → Q (.bool true) { s with heap := h', toks := tk }) :
    wpAny (model prog w) (ktrTop dp un gd cn cs L a ccd cl outer) (call (.ref 295) [.ref src, .ref M, .ref O]) Q E s := by
  obtain ⟨nd, hS, hO, loS, loO, nn', hl, ok, tab, ky⟩ := I
  have hRled : ∀ q ∈ ledS w σ, q ∈ ledS w σ ++ oth := fun q hq => List.mem_append_left _ hq
  unfold stLed at N0
  generalize hR : ledS w σ ++ oth = R at N0 nd hRled
  have N : News h₀ L s.heap ((src, listOf #[.int x tx, .int y ty] nn) :: (M, instObj 236 dM) :: (dM, mirD w t1 t2 tm S nM) :: (S, oS) :: (O, oO) :: (285, tabObj ps) :: R) := ledger_sub N0 (fun q hq => by
    simp only [List.mem_cons] at hq ⊢
    rcases hq with h | h | h | h | h | h | h <;> simp [h])
  clear N0
  simp only [List.nodup_cons, List.mem_cons, not_or] at nd
  obtain ⟨⟨nMd, nMS, nMO, nMs, nMt, nMR⟩, ⟨ndS, ndO, nds, ndt, ndR⟩, ⟨nSO, nSs, nSt, nSR⟩, ⟨nOs, nOt, nOR⟩, ⟨nst, nsR⟩, ntR, ndRR⟩ := nd
  have osrc := nd_off nsR
  have nts : (285 : Nat) ≠ src := fun e => nst e.symm
  refine wpAny_call ?_
  k_dflt (refine' code_def (binds := [(Str.ofString "source", .ref src), (Str.ofString "mirrors", .ref M), (Str.ofString "own", .ref O)]) ?k1 ?k2 ?k3 ?k4 ?k5 ?kA ?kF ?kK ?k6 ?k7 ?k8 ?k9 ?kB ?_ ?c2 ?c3 ?c4 ?c5; (case kA => exact rfl); (case kF => exact rfl); (case kK => first | exact rfl | assumption); (case k1 => k_asm); (case k2 => k_asm); (case k3 => k_asm); (case k4 => k_asm); (case k5 => k_asm); (case k6 => k_is); (case k7 => k_is); (case k8 => ktr_room); (case k9 => exact BindsTo.of_eq rfl); (case c5 => decide); (case kB => exact locs rfl); (case c2 => exact rfl); (case c3 => exact rfl); (case c4 => exact rfl))
  k_whole
  intro g1 L1 h1 FG1 F1 N1 B1 X1 T1
  (try dsimp only)
  replace F1 : Fr g1 L1 h1 (fun y => List.lookup y [(Str.ofString "own", .ref O), (Str.ofString "mirrors", .ref M), (Str.ofString "source", .ref src)]) := F1
  (try k_fold)
  k_steps
  unfold Stop
  rename_i port tport _ _ _ _ _ _ tkp p0 p6 _ _ li _ lli way tway _ _ _ _ _ _ _ _ _ Dt _ lDt _ _ _ F2 N2
  refine cut_tags (w := w) (src := src) (by k_asm) (by k_asm) ?_ ?_
  · have go : GoOn1 := trivial
    k_steps
    · exact TagsPost.intro (gs := []) (by assumption) (by assumption) (by assumption) (by assumption) (.inl rfl) (fun q hq => hq) (fun g hg => (by cases hg)) osrc (by omega)
    · rename News g1 L1 _ (_ :: (_, instObj 77 _) :: _) => N4
      obtain ⟨g, rfl, rfl, N5⟩ := tag_packed N4
      refine TagsPost.intro (gs := [g]) (by assumption) N5 (by assumption) (by assumption) (.inr ⟨g, rfl⟩) (fun q hq => .tail _ (.tail _ hq)) ?gg ?os ?ne
      case gg =>
        intro g2 hg q hq
        rw [List.mem_singleton.mp hg] at hq
        simp only [Tg.led, List.mem_cons, List.not_mem_nil, or_false] at hq
        rcases hq with rfl | rfl
        · exact .head _
        · exact .tail _ (.head _)
      case os =>
        intro q hq
        rcases List.mem_cons.mp hq with rfl | hq
        · show (@Ne Nat g.inst src)
          omega
        rcases List.mem_cons.mp hq with rfl | hq
        · show (@Ne Nat g.dict src)
          omega
        exact osrc q hq
      case ne => omega
  · intro h3 tk3 D3 gs R' x3 y3 tx3 ty3 n3 y30 y31 F3 N3 hgs hRR hgR hRs hDs
    k_sweep
    k_steps
    unfold Stop
    rename News g1 L1 _ ((_, instObj 111 _) :: _) => N4
    obtain ⟨f, rfl, rfl, rfl, rfl, N5⟩ := frame_packed N4
    clear N4
    have hft : f.tags.length ≤ 100 := by rcases hgs with e | ⟨g, e⟩ <;> simp [e]
    k_dflt (refine' parts_spec (f := f) ?B ?F ?X ?N ?T ?k ?hf hft ?d ?u ?_; (case B => k_asm); (case F => k_asm); (case X => k_asm); (case N => k_asm); (case T => k_asm); (case k => first | exact rfl | assumption); (case d => ktr_room); (case u => ktr_units); (case hf => exact mem_three (by k_mem) (by k_mem) (by k_mem) (fun q hq => by
      obtain ⟨g, hg, hq⟩ := List.mem_flatMap.mp hq
      exact mem11 (hgR g hg q hq))))
    intro h6 tk6 P6 T6 ys6 nT6 add6 F6 N6 r6 o6
    replace N6 := mid_add N6
    k_sweep
    k_steps
    unfold Stop
    rename_i D _ lD tup _ lT _ _ _ _ _ B8 h8 tk8 vs ns c8 F9 N9 hI hP hO lB
    have EX : ∃ REST x y tx ty n, News g1 L1 h8 ((D, listOf (List.toArray []) 0) :: (B8, listOf (List.toArray vs) c8) :: REST) ∧ (∀ q ∈ stLed w M dM S O src t1 t2 tm nM oS oO x y tx ty n ps σ oth, q ∈ REST) ∧ 0 ≤ y ∧ y < 2147483647 ∧ (∀ q ∈ REST, q.1 ≠ D) ∧ (P6, partsO f T6) ∈ REST ∧ (T6, listOf (List.toArray ys6) nT6) ∈ REST ∧ RowsIn REST ys6 f.tags ∧ (∀ q ∈ f.led w, q ∈ REST) := by
      refine' ⟨_, _, _, _, _, _, front3 N9, ?a1, ?a2, ?a3, ?a4, ?a5, ?a6, ⟨r6.1, fun j v gg h1 h2 => (r6.2 j v gg h1 h2).mono ?a7⟩, ?a8⟩
      case a1 => exact st_mem3 (by k_mem) (by k_mem) (by k_mem) (by k_mem) (by k_mem) (by k_mem) (fun q hq => mem14 (List.mem_append_right _ (hRR q (hR ▸ hq))))
      case a2 => assumption
      case a3 => assumption
      case a4 =>
        intro q hq
        rcases List.mem_cons.mp hq with rfl | hq
        · exact Nat.ne_of_gt lT.1
        · refine Nat.ne_of_lt (allLt_mem ?_ q hq)
          exact lD
      case a5 => k_mem
      case a6 => k_mem
      case a7 => exact fun q hq => mem14 (List.mem_append_left _ hq)
      case a8 => exact mem_three (by k_mem) (by k_mem) (by k_mem) (fun q hq => by
        obtain ⟨g, hg, hq⟩ := List.mem_flatMap.mp hq
        exact mem14 (List.mem_append_right _ (hgR g hg q hq)))
    obtain ⟨REST, xe, ye, txe, tye, ne, N10, rSt, ye0, ye1, rD, rP, rT, rR, rF⟩ := EX
    have rO : (O, oO) ∈ REST := rSt _ (.tail _ (.tail _ (.tail _ (.head _))))
    have rLed : ∀ q ∈ ledS w σ, q ∈ REST := fun q hq => rSt q (.tail _ (.tail _ (.tail _ (.tail _ (.tail _ (.tail _ (List.mem_append_left _ hq)))))))
    have hys : ys6.length ≤ 100 := by rw [r6.1]; exact hft
    have lBD := lB.2.1
    clear N9 lB lT lD o6 r6
    refine kd_listI (Led := fun c : DuSt => [(D, listOf (List.toArray c.acc) c.n)]) (cst := (B8, listOf (List.toArray vs) c8) :: REST) (ps := fun _ => []) (Facts := fun nw c => DRows nw 4 c.acc (c.cs.map fun x => dueDat x f)) (stored := [Str.ofString "goal", Str.ofString "vlan", Str.ofString "sources", Str.ofString "copied"]) (P := fun pre c => c.cs = pre.filterMap (hitOf σ (1 + port) way)) (adr := D :: B8 :: REST.map (·.1)) (c₀ := ⟨[], 0, []⟩) rfl (.head _) hI F9 N10 ?_ (fun _ => rfl) DRows.nil (fun _ h => nomatch h) rfl ?_ ?_
    · intro q hq
      simp only [List.append_nil, List.cons_append, List.nil_append, List.mem_cons] at hq ⊢
      rcases hq with h | h | h <;> simp [h]
    · intro c tl pre post n t u h tk own e hmem sep hoff hFacts hPre F3 N3
      obtain ⟨cc, hcc, hnum⟩ : ∃ cc ∈ σ, cc.num = n := by
        have := hP.mem_iff.mp hmem
        simp only [kvO, List.map_map, List.mem_map, Function.comp] at this
        exact this
      subst hnum
      have hR1D : ∀ q ∈ ((B8, listOf (List.toArray vs) c8) :: REST) ++ (tl ++ own), q.1 ≠ D := by
        intro q hq
        rcases List.mem_append.mp hq with hq | hq
        · rcases List.mem_cons.mp hq with rfl | hq
          · exact Nat.ne_of_gt lBD
          · exact rD q hq
        · exact hoff q hq D (.head _)
      generalize hR1 : ((B8, listOf (List.toArray vs) c8) :: REST) ++ (tl ++ own) = R1 at hR1D N3
      have hsub : ∀ q ∈ REST, q ∈ R1 := fun q hq => hR1 ▸ List.mem_append_left _ (.tail _ hq)
      have hcok := ok cc hcc
      have hso2 := hcok.so2
      have hlo2 := hcok.lo2
      have hvO : valueAt (kvO σ) cc.num = some (.ref cc.lst) := valueAt_ses Ses.num (fun c => Value.ref c.lst) nn' hcc
      have m1 : (O, oO) ∈ R1 := hsub _ rO
      have m2 : (cc.lst, lstO cc) ∈ R1 := hsub _ (rLed _ (ledS_mem hcc _ (.tail _ (.tail _ (.tail _ (.head _))))))
      have m3 : (cc.src2, cc.so2) ∈ R1 := hsub _ (rLed _ (ledS_mem hcc _ (.tail _ (.tail _ (.tail _ (.tail _ (.head _)))))))
      have m4 : (P6, partsO f T6) ∈ R1 := hsub _ rP
      have m5 : (T6, listOf (List.toArray ys6) nT6) ∈ R1 := hsub _ rT
      have e1 : @Ne Nat O D := hR1D _ m1
      have e2 : @Ne Nat cc.lst D := hR1D _ m2
      have e3 : @Ne Nat cc.src2 D := hR1D _ m3
      have e4 : @Ne Nat P6 D := hR1D _ m4
      have e5 : @Ne Nat T6 D := hR1D _ m5
      have hacc : c.acc.length ≤ 1000 := by
        have h0 := hFacts.1
        rw [List.length_map, hPre] at h0
        rw [h0]
        have h1 := List.length_filterMap_le (hitOf σ (1 + port) way) pre
        have h2 : ns.length = σ.length := by rw [hP.length_eq]; simp [kvO]
        rw [e, List.length_append] at h2
        omega
      have hstep := hit_step (port := 1 + port) (way := way) nn' hcc pre
      rw [takes_same hcok] at hstep
      have N4 : News g1 L1 h ((D, listOf (List.toArray c.acc) c.n) :: (O, oO) :: (cc.lst, lstO cc) :: (cc.src2, cc.so2) :: (P6, partsO f T6) :: (T6, listOf (List.toArray ys6) nT6) :: R1) := ledger_sub N3 (by
        intro q hq
        simp only [List.mem_cons, List.cons_append, List.nil_append] at hq ⊢
        rcases hq with h | h | h | h | h | h | h
        · exact .inl h
        · exact .inr (h ▸ m1)
        · exact .inr (h ▸ m2)
        · exact .inr (h ▸ m3)
        · exact .inr (h ▸ m4)
        · exact .inr (h ▸ m5)
        · exact .inr h)
      clear N3
      cases hval : valueAt cc.kv2 (1 + port) with
      | none =>
        k_steps
        refine kd_end c [] sep (by assumption) (by assumption) (fun q hq => mem_cst hR1 hq) (fun q hq => mem_own hR1 hq) rfl (fun _ h => nomatch h) (fun _ h => nomatch h) (fun _ h => nomatch h) ?_ hFacts ?_
        · intro z hz _ hs
          obtain ⟨s1, s2, s3, s4⟩ := not_stored hs
          simp only [if_neg s1, if_neg s2, if_neg s3, if_neg s4, if_neg hz, kstB, hs, Bool.false_eq_true, if_false]
        · rw [hstep, hPre, if_neg (by simp [takes2, hval])]; simp
      | some vv =>
        obtain ⟨xx, tx', rfl⟩ := kv2_str hcok hval
        rcases hcok.vlan with ⟨hv1, hv2⟩ | ⟨v, vt, vt2, hv1, hv2⟩
        · have el : lstO cc = listOf #[.int cc.goal cc.gt2, .none, .ref cc.src2] cc.n2 := by show listOf #[_, cc.vl2, _] _ = _; rw [hv2]
          rw [el] at N4
          k_steps
          · rename_i hTest _ C c' _ lC _ _ T _ _ _ lT _ F5 N5
            refine kd_end ⟨c.acc ++ [.ref T], c.n + 1, c.cs ++ [cc]⟩ [(T, ({ cls := .type "tuple", data := .seq #[.int cc.goal cc.gt2, .ref C] } : Obj)), (C, listOf #[.int f.v1 f.k1, .int f.v2 f.k2, .ref T6, .int f.v4 f.k4, .bytes f.v5 f.k5] c')] sep F5 N5 ?_ ?_ rfl ?_ ?_ (fun _ h => nomatch h) ?_ ?_ ?_
            · intro q hq
              rcases hit_mem hR1 hq with rfl | hq | hq
              · k_mem
              · simp only [List.mem_cons, List.not_mem_nil, or_false] at hq
                rcases hq with rfl | rfl <;> k_mem
              · (repeat apply List.Mem.tail)
                exact hq
            · intro q hq
              (repeat apply List.Mem.tail)
              exact own_mem hR1 hq
            · intro q hq
              simp only [List.mem_cons, List.not_mem_nil, or_false] at hq
              rcases hq with rfl | rfl
              · exact adr_ne hR1 lT.2.2.1 lT.2.2.2.2.2.2.2.2
              · exact adr_ne hR1 lC.2.1 lC.2.2.2.2.2.2.2
            · intro q hq
              simp only [List.mem_cons, List.not_mem_nil, or_false] at hq
              rcases hq with rfl | rfl
              · exact own_ne hR1 lT.2.2.2.2.2.2.2.2
              · exact own_ne hR1 lC.2.2.2.2.2.2.2
            · intro z hz _ hs
              obtain ⟨s1, s2, s3, s4⟩ := not_stored hs
              simp only [if_neg s1, if_neg s2, if_neg s3, if_neg s4, if_neg hz, kstB, hs, Bool.false_eq_true, if_false]
            · show DRows _ 4 _ (List.map _ (c.cs ++ [cc]))
              rw [List.map_append]
              exact hFacts.snoc (fun q hq => kd_sub q hq) (due_none hv1 (kd_new (.head _)) (kd_new (.tail _ (.head _))) (List.mem_append_left _ (.tail _ rT)) (rows_mono rR fun q hq => List.mem_append_left _ (.tail _ hq)))
            · show c.cs ++ [cc] = _
              rw [hstep, hPre, if_pos (by simpa [takes2, hval] using hTest)]
          · rename_i hTest
            refine kd_end c [] sep (by assumption) (by assumption) (fun q hq => mem_cst hR1 hq) (fun q hq => mem_own hR1 hq) rfl (fun _ h => nomatch h) (fun _ h => nomatch h) (fun _ h => nomatch h) ?_ hFacts ?_
            · intro z hz _ hs
              obtain ⟨s1, s2, s3, s4⟩ := not_stored hs
              simp only [if_neg s1, if_neg s2, if_neg s3, if_neg s4, if_neg hz, kstB, hs, Bool.false_eq_true, if_false]
            · rw [hstep, hPre, if_neg (by simpa [takes2, hval] using hTest)]; simp
        · have el : lstO cc = listOf #[.int cc.goal cc.gt2, .int v vt2, .ref cc.src2] cc.n2 := by show listOf #[_, cc.vl2, _] _ = _; rw [hv2]
          rw [el] at N4
          k_steps
          · rename_i hTest _ C c' _ lC _ tkU U _ lU V _ lV W _ lW _ _ T _ _ _ lT _ F5 N5
            refine kd_end ⟨c.acc ++ [.ref T], c.n + 1, c.cs ++ [cc]⟩ [(T, ({ cls := .type "tuple", data := .seq #[.int cc.goal cc.gt2, .ref C] } : Obj)), (C, listOf #[.int f.v1 f.k1, .int f.v2 f.k2, .ref W, .int f.v4 f.k4, .bytes f.v5 f.k5] c'), (W, ({ cls := .type "list", data := .seq (List.toArray (Value.ref U :: ys6)) } : Obj)), (U, ({ cls := .type "tuple", data := .seq #[.int 33024 tkU, .int 0 (tkU + 1), .bool false, .int v vt2] } : Obj))] sep F5 N5 ?_ ?_ rfl ?_ ?_ (fun _ h => nomatch h) ?_ ?_ ?_
            · intro q hq
              rcases hit_mem hR1 hq with rfl | hq | hq
              · k_mem
              · simp only [List.mem_cons, List.not_mem_nil, or_false] at hq
                rcases hq with rfl | rfl | rfl | rfl <;> k_mem
              · (repeat apply List.Mem.tail)
                exact hq
            · intro q hq
              (repeat apply List.Mem.tail)
              exact own_mem hR1 hq
            · intro q hq
              simp only [List.mem_cons, List.not_mem_nil, or_false] at hq
              rcases hq with rfl | rfl | rfl | rfl
              · exact adr_ne hR1 lT.2.2.2.2.2.1 lT.2.2.2.2.2.2.2.2.2.2.2
              · exact adr_ne hR1 lC.2.1 lC.2.2.2.2.2.2.2
              · exact adr_ne hR1 lW.2.2.2.2.1 lW.2.2.2.2.2.2.2.2.2.2
              · exact adr_ne hR1 lU.2.2.1 lU.2.2.2.2.2.2.2.2
            · intro q hq
              simp only [List.mem_cons, List.not_mem_nil, or_false] at hq
              rcases hq with rfl | rfl | rfl | rfl
              · exact own_ne hR1 lT.2.2.2.2.2.2.2.2.2.2.2
              · exact own_ne hR1 lC.2.2.2.2.2.2.2
              · exact own_ne hR1 lW.2.2.2.2.2.2.2.2.2.2
              · exact own_ne hR1 lU.2.2.2.2.2.2.2.2
            · intro z hz _ hs
              obtain ⟨s1, s2, s3, s4⟩ := not_stored hs
              simp only [if_neg s1, if_neg s2, if_neg s3, if_neg s4, if_neg hz, kstB, hs, Bool.false_eq_true, if_false]
            · show DRows _ 4 _ (List.map _ (c.cs ++ [cc]))
              rw [List.map_append]
              exact hFacts.snoc (fun q hq => kd_sub q hq) (due_some hv1 (kd_new (.head _)) (kd_new (.tail _ (.head _))) (kd_new (.tail _ (.tail _ (.head _)))) (kd_new (.tail _ (.tail _ (.tail _ (.head _))))) (rows_mono rR fun q hq => List.mem_append_left _ (.tail _ hq)))
            · show c.cs ++ [cc] = _
              rw [hstep, hPre, if_pos (by simpa [takes2, hval] using hTest)]
          · rename_i hTest
            refine kd_end c [] sep (by assumption) (by assumption) (fun q hq => mem_cst hR1 hq) (fun q hq => mem_own hR1 hq) rfl (fun _ h => nomatch h) (fun _ h => nomatch h) (fun _ h => nomatch h) ?_ hFacts ?_
            · intro z hz _ hs
              obtain ⟨s1, s2, s3, s4⟩ := not_stored hs
              simp only [if_neg s1, if_neg s2, if_neg s3, if_neg s4, if_neg hz, kstB, hs, Bool.false_eq_true, if_false]
            · rw [hstep, hPre, if_neg (by simpa [takes2, hval] using hTest)]; simp
    · intro c tl u h tk ht hFacts hPre F3 N3
      generalize hR2 : ((B8, listOf (List.toArray vs) c8) :: REST) ++ tl = R2 at N3 hFacts
      have hsub : ∀ q ∈ REST, q ∈ R2 := fun q hq => hR2 ▸ List.mem_append_left _ (.tail _ hq)
      have sSt : ∀ q ∈ stLed w M dM S O src t1 t2 tm nM oS oO xe ye txe tye ne ps σ oth, q ∈ R2 := fun q hq => hsub q (rSt q hq)
      have m1 : (M, instObj 236 dM) ∈ R2 := sSt _ (.head _)
      have m2 : (dM, mirD w t1 t2 tm S nM) ∈ R2 := sSt _ (.tail _ (.head _))
      have m3 : (S, oS) ∈ R2 := sSt _ (.tail _ (.tail _ (.head _)))
      have m4 : (O, oO) ∈ R2 := hsub _ rO
      have m5 : (P6, partsO f T6) ∈ R2 := hsub _ rP
      have m6 : ∀ q ∈ ledS w σ, q ∈ R2 := fun q hq => hsub _ (rLed q hq)
      have m7 : ∀ q ∈ f.led w, q ∈ R2 := fun q hq => hsub _ (rF q hq)
      have m8 : Vw R2 3 (.ref P6) (frmDat f) := vw_parts (hsub _ rP) (hsub _ rT) (rows_mono rR hsub)
      have N4 : News g1 L1 h ((D, listOf (List.toArray c.acc) c.n) :: (M, instObj 236 dM) :: (dM, mirD w t1 t2 tm S nM) :: (S, oS) :: (O, oO) :: (P6, partsO f T6) :: R2) := ledger_sub N3 (by
        intro q hq
        simp only [List.mem_cons, List.cons_append, List.nil_append] at hq ⊢
        rcases hq with h | h | h | h | h | h | h
        · exact .inl h
        · exact .inr (h ▸ m1)
        · exact .inr (h ▸ m2)
        · exact .inr (h ▸ m3)
        · exact .inr (h ▸ m4)
        · exact .inr (h ▸ m5)
        · exact .inr h)
      clear N3
      k_steps
      unfold Stop
      k_dflt (refine' copies_spec (f := f) (σ := σ) (oS := oS) (t1 := t1) (t2 := t2) (tm := tm) (nM := nM) (dM := dM) (S := S) ?B ?F ?X ?N ?T ?k ?m ?hf hgs ?d ?u hS loS nn' hl ok ?_; (case B => k_asm); (case F => k_asm); (case X => k_asm); (case N => k_asm); (case T => k_asm); (case k => first | exact rfl | assumption); (case m => exact mem_three (by k_mem) (by k_mem) (by k_mem) (fun q hq => by (repeat apply List.Mem.tail); exact m6 q hq)); (case hf => intro q hq; (repeat apply List.Mem.tail); exact m7 q hq); (case d => ktr_room); (case u => ktr_units))
      intro h10 tk10 D2 acc2 n2 cps ns2 add2 F10 N10' off10 offA hacc2 hcps hperm2 hsort2 hmap2
      subst hacc2
      have hcsig : ∀ cp ∈ cps, cp.c ∈ σ := by
        intro cp hcp
        have h1 : cp.c ∈ cps.map (·.c) := List.mem_map.mpr ⟨cp, hcp, rfl⟩
        rw [hmap2] at h1
        obtain ⟨k, _, hk⟩ := List.mem_filterMap.mp h1
        unfold hitOf at hk
        exact List.mem_of_find?_eq_some (Option.filter_eq_some_iff.mp hk).1
      have hlen2 : cps.length ≤ 100 := by
        have h1 := congrArg List.length hmap2
        rw [List.length_map] at h1
        have h2 := List.length_filterMap_le (hitOf σ (1 + port) way) ns2
        have h3 := hperm2.length_eq
        rw [List.length_map] at h3
        omega
      have hdue : cps.map (fun cp => dueDat cp.c f) = c.cs.map (fun x => dueDat x f) := by
        have h1 : ns = ns2 := sorted_one (hP.trans (by rw [kvO, List.map_map]; exact hperm2.symm)) hO hsort2
        rw [show (fun cp : Cp => dueDat cp.c f) = (fun x => dueDat x f) ∘ (fun cp : Cp => cp.c) from rfl, ← List.map_map, hmap2, hPre, h1]
      refine ⟨D2, n2, cps, f, _, rfl, rfl, F10, N10', .head _, hlen2, fun cp hcp => (hcps cp hcp).mono fun q hq => .tail _ hq, ?_, ?_⟩
      · intro cp I oI C oC D' m₂ ys h12 tk12 E' add hcp hNs hx hx2 F12 N12 off12 ne12
        unfold PairTurn
        have hcpok := hcps cp hcp
        k_steps
        unfold Stop
        have hft2 : cp.f.tags.length ≤ 100 := by
          rcases ok _ (hcsig cp hcp) with ⟨_, _, _, _, hvl, _⟩
          have hcv := hcpok.2.2
          have hfl : f.tags.length ≤ 1 := by rcases hgs with e | ⟨g, e⟩ <;> simp [e]
          rcases hvl with ⟨e, _⟩ | ⟨v, t, _, e, _⟩
          · rw [hcv.2.2.2.2.2.1 e]; omega
          · obtain ⟨g, e1, _⟩ := hcv.2.2.2.2.2.2 v t e
            rw [e1, List.length_cons]; omega
        k_dflt (refine' parts_spec (f := cp.f) ?Ba ?Fa ?Xa ?Na ?Ta ?ka ?hfa hft2 ?da ?ua ?_; (case Ba => k_asm); (case Fa => k_asm); (case Xa => k_asm); (case Na => k_asm); (case Ta => k_asm); (case ka => first | exact rfl | assumption); (case da => ktr_room); (case ua => ktr_units); (case hfa => intro q hq; exact .tail _ (.tail _ (.tail _ (List.mem_append_right _ (.tail _ (hcpok.2.1 q hq)))))))
        intro h13 tk13 P13 T13 ys13 nT13 add13 F13 N13 r13 o13
        k_steps
        rename_i T14 h14 F14 N14 l14
        have hd14 : frmDat cp.f = partsDat cp.c f := copied_dat hcpok.2.2 (by
          rcases (ok _ (hcsig cp hcp)).vlan with ⟨e, _⟩ | ⟨v, t, _, e, _⟩
          · exact .inl e
          · exact .inr ⟨v, t, e⟩)
        refine CompEnd.intro F14 N14 (((T14, ({ cls := .type "tuple", data := .seq #[.int cp.c.goal cp.c.gt, .ref P13] } : Obj)) :: (P13, partsO cp.f T13) :: (T13, listOf (List.toArray ys13) nT13) :: add13) ++ (add ++ _)) sub_own ?_ ?_ ⟨_, rfl, ?_⟩
        · refine off_own (fun p hp => ?_) o13 off12
          refine Nat.ne_of_lt (allLt_mem (l := add13 ++ _) ?_ p (List.mem_append_right _ hp))
          exact l14.2.2
        · exact List.mem_append_right _ (List.mem_append_right _ (.head _))
        · refine vw_pair (.head _) (hd14 ▸ vw_parts (.tail _ (.head _)) (.tail _ (.tail _ (.head _))) (rows_mono r13 fun q hq => .tail _ (.tail _ (.tail _ (List.mem_append_left _ hq)))))
      · intro ys D' h12 tk12 add hrows F12 N12 o12
        generalize hR3 : add ++ ((D2, listOf (List.toArray (cps.map fun cp => Value.ref cp.tup)) n2) :: (add2 ++ ((D, listOf (List.toArray c.acc) c.n) :: (M, instObj 236 dM) :: (dM, mirD w t1 t2 tm S nM) :: (S, oS) :: (O, oO) :: (P6, partsO f T6) :: R2))) = R3 at hrows N12 o12
        have h23 : ∀ q ∈ (D, listOf (List.toArray c.acc) c.n) :: (M, instObj 236 dM) :: (dM, mirD w t1 t2 tm S nM) :: (S, oS) :: (O, oO) :: (P6, partsO f T6) :: R2, q ∈ R3 := fun q hq => hR3 ▸ List.mem_append_right _ (.tail _ (List.mem_append_right _ hq))
        have h22 : ∀ q ∈ R2, q ∈ R3 := fun q hq => h23 q (by (repeat apply List.Mem.tail); exact hq)
        have n6 : ∀ q ∈ ledS w σ, q ∈ R3 := fun q hq => h22 _ (m6 q hq)
        have n7 : ∀ q ∈ f.led w, q ∈ R3 := fun q hq => h22 _ (m7 q hq)
        have vDue : Vw R3 5 (.ref D) (.list (c.cs.map fun x => dueDat x f)) := (hFacts.mono h22).list (h23 _ (.head _))
        have N13 : News g1 L1 h12 ((D', lst ys) :: (M, instObj 236 dM) :: (dM, mirD w t1 t2 tm S nM) :: (S, oS) :: (O, oO) :: R3) := ledger_sub N12 (by
          intro q hq
          simp only [List.mem_cons] at hq ⊢
          rcases hq with h | h | h | h | h | h
          · exact .inl h
          · exact .inr (h ▸ h22 _ m1)
          · exact .inr (h ▸ h22 _ m2)
          · exact .inr (h ▸ h22 _ m3)
          · exact .inr (h ▸ h22 _ m4)
          · exact .inr h)
        clear N12
        k_sweep
        k_steps
        unfold Stop
        refine vw_ne N13 (k := 5) (k' := 5) (xs := c.cs.map fun x => dueDat x f) (DRows.list (hdue ▸ hrows.mono (fun q hq => .tail _ (.tail _ (.tail _ (.tail _ (.tail _ hq)))))) (.head _)) (vDue.mono fun q hq => .tail _ (.tail _ (.tail _ (.tail _ (.tail _ hq))))) (by ktr_units) ?_
        k_steps
        unfold Stop
        k_dflt (refine' parts_spec (f := f) ?Bb ?Fb ?Xb ?Nb ?Tb ?kb ?hfb hft ?db ?ub ?_; (case Bb => k_asm); (case Fb => k_asm); (case Xb => k_asm); (case Nb => k_asm); (case Tb => k_asm); (case kb => first | exact rfl | assumption); (case db => ktr_room); (case ub => ktr_units); (case hfb => intro q hq; (repeat apply List.Mem.tail); exact n7 q hq))
        intro h15 tk15 P15 T15 ys15 nT15 add15 F15 N15 r15 o15
        have vB : Vw R3 3 (.ref P6) (frmDat f) := m8.mono h22
        have N16 : News g1 L1 h15 ((P15, partsO f T15) :: (T15, listOf (List.toArray ys15) nT15) :: (M, instObj 236 dM) :: (dM, mirD w t1 t2 tm S nM) :: (S, oS) :: (O, oO) :: (add15 ++ R3)) := ledger_sub N15 (by
          intro q hq
          simp only [List.mem_cons, List.mem_append] at hq ⊢
          rcases hq with h | h | h | h | h | h | h | h <;> simp [h])
        clear N15
        k_steps
        unfold Stop
        refine vw_ne N16 (k := 3) (k' := 3) (vw_parts (.head _) (.tail _ (.head _)) (rows_mono r15 fun q hq => .tail _ (.tail _ (.tail _ (.tail _ (.tail _ (.tail _ (List.mem_append_left _ hq)))))))) (vB.mono fun q hq => .tail _ (.tail _ (.tail _ (.tail _ (.tail _ (.tail _ (List.mem_append_right _ hq))))))) (by ktr_units) ?_
        have n9 : ∀ q ∈ ledS w σ, q ∈ add15 ++ R3 := fun q hq => List.mem_append_right _ (n6 q hq)
        k_steps
        unfold Stop
        rename News g1 L1 _ _ => N17
        refine eq_bools N17 (by k_mem) (by k_mem) any_goals.symm (any_srcs ok).symm (by ktr_units) ?_
        k_steps
        refine hret _ _ xe ye txe tye ne (by assumption) (ledger_sub (by assumption) fun q hq => ?_) ye0 ye1
        have := h22 q (sSt q hq)
        (repeat apply List.Mem.tail)
        exact List.mem_append_right _ this

end
end Mine
end

section
open PySem PySem.W PyProof.Rows PySem.Calls PyProof.Rows.LCg PyProof.Rows.LCt
set_option Elab.async false
set_option maxRecDepth 100000
set_option maxHeartbeats 8000000
namespace Mine
theorem lnW9_0 : True := by
  k_with_none
  w_top off
  k_with "pk" => first | exact pk1 | exact pk2 | exact pk3 | exact pk4 | (refine pkS ?_; k_extra "pk")
  k_with "ne" => (refine neN ?_; (try dsimp only); with_reducible first | assumption | exact .symm (by assumption) | exact pk2 (by assumption) | exact pk4 (by assumption) | (refine pkH (by assumption) ?_; k_extra "pk") | (refine pkL (by assumption) ?_; k_extra "pk") | fail)
  k_with "room" => first | exact rmA (by assumption) rfl | exact rmB (by assumption) rfl | exact rmC (by assumption) rfl | fail
  trivial
section
variable {prog : Program} {w : World} {p : Program} {loose : List Str} {mean : ExcName → Option Value} {mg mb : Str → Option Value} {dp un : Nat} {gd : Option (List Code)} {cn : Str} {cs : Scope} {a : Addr} {ccd : Value} {cl : List (Str × Addr)} {outer : List Env} {A₀ : Around} {base h₀ : Heap} {L : Addr} {m : Str → Option Value} {s : Shared} {Q E : Value → Shared → Prop} {news : List (Addr × Obj)}


theorem lnW9_1 : True := by
  k_with "exec Raise some none" => (k_here; k_dflt (refine raise_own (by rfl) ?_))
  k_with "call ref" => (k_here; (with_reducible show wpAny _ _ (call (Value.ref 51) _) _ _ _); (refine' exc_make ?BQ253 ?FQ253 ?XQ253 ?NQ253 ?TQ253 ?kQ253 ?dQ253 ?uQ253 ?_; (case BQ253 => k_asm); (case FQ253 => k_asm); (case XQ253 => k_asm); (case NQ253 => k_asm); (case TQ253 => k_asm); (case kQ253 => first | exact rfl | assumption); (case dQ253 => ktr_room); (case uQ253 => ktr_units)); intro h' tk' e' t1' d1' F' N' o1' o2' o3'; revert h' tk' e' t1' d1' F' N' o1' o2' o3'; intro _ _ _ _ _ _ _ _ _ _)
  k_with "RaisableX" => (k_here; refine ⟨_, _, _, rfl, (‹News _ _ _ ((_, excOd _ _) :: _)› _ (.head _)).1, rfl, rfl, rfl, Frag.In.keeps (by k_asm) (Fr.keep (by k_asm)), ?_⟩)
  k_with "leaving ref" => (k_here; (refine' leave_raiseZ ?BQ255 ?FQ255 ?NQ255 ?o1Q255 ?o2Q255 ?o3Q255 ?_; (case BQ255 => k_asm); (case FQ255 => k_asm); (case NQ255 => k_asm); (case o1Q255 => assumption); (case o2Q255 => assumption); (case o3Q255 => assumption)); intro h' R' U'; (try dsimp only at R' U' ⊢); revert h' R' U'; intro _ _ _)
  k_with "leaving ref" => (k_here; (refine' leave_onS ?k1Q256 ?k2Q256 ?k3Q256 ?k4Q256 ?_; (case k3Q256 => assumption); (case k1Q256 => assumption); (case k4Q256 => assumption); (case k2Q256 => assumption); k_whole; intro h' R' K' U'; (try dsimp only at R' U' ⊢); revert h' R' K' U'; intro _ _ _ _))
  k_with "call ref" => (k_here; (first | (with_reducible show wpAny _ _ (call (Value.ref 198) _) _ _ _) | (with_reducible show wpAny _ _ (call (Value.ref 212) _) _ _ _) | (with_reducible show wpAny _ _ (call (Value.ref 233) _) _ _ _) | (with_reducible show wpAny _ _ (call (Value.ref 247) _) _ _ _) | (with_reducible show wpAny _ _ (call (Value.ref 254) _) _ _ _) | (with_reducible show wpAny _ _ (call (Value.ref 290) _) _ _ _) | (with_reducible show wpAny _ _ (call (Value.ref 295) _) _ _ _)); refine Stop.go ?_)
  k_with "pyIter ref" => (k_here; refine Stop.go ?_)
  trivial
theorem mir_packed {w : World} {h : Heap} {M dM S : Addr} {oS : Obj} {t1 t2 tm : Tok} {nM : Nat} {rest : List (Addr × Obj)} (N : News h₀ L h ((S, oS) :: (M, instObj 236 dM) :: (dM, dictOf [⟨PyData.keyHash w.params (Str.ofString "most"), .str (Str.ofString "most") t1, .int 3 tm⟩, ⟨PyData.keyHash w.params (Str.ofString "sessions"), .str (Str.ofString "sessions") t2, .ref S⟩] nM) :: rest)) :
    ∃ M' dM' S' oS' t1' t2' tm' nM', M' = M ∧ dM' = dM ∧ S' = S ∧ oS' = oS ∧ News h₀ L h ((S', oS') :: (M', instObj 236 dM') :: (dM', mirD w t1' t2' tm' S' nM') :: rest) :=
  ⟨M, dM, S, oS, t1, t2, tm, nM, rfl, rfl, rfl, rfl, N⟩
theorem off2 {w : World} {S M dM : Nat} {oS oM odM o285 : Obj} {c : Ses} (f1 : S < c.dict) (f2 : M < c.dict) (f3 : dM < c.dict) (f4 : 285 < c.dict) (f5 : c.dict < c.inst) (f6 : c.inst < c.src) : ∀ q ∈ [((S : Addr), oS), (c.inst, instObj 161 c.dict), (c.dict, sesD w c), ((M : Addr), oM), ((dM : Addr), odM), ((285 : Addr), o285)], q.1 ≠ c.src := by
  have g5 : @LT.lt Nat _ c.dict c.src := Nat.lt_trans f5 f6
  intro q hq
  simp only [List.mem_cons, List.not_mem_nil, or_false] at hq
  rcases hq with rfl | rfl | rfl | rfl | rfl | rfl
  · exact Nat.ne_of_lt (Nat.lt_trans f1 g5)
  · exact Nat.ne_of_lt f6
  · exact Nat.ne_of_lt g5
  · exact Nat.ne_of_lt (Nat.lt_trans f2 g5)
  · exact Nat.ne_of_lt (Nat.lt_trans f3 g5)
  · exact Nat.ne_of_lt (Nat.lt_trans f4 g5)
theorem off3 {w : World} {S M dM : Nat} {oS oM odM : Obj} {c : Ses} (f1 : S < c.dict) (f2 : M < c.dict) (f3 : dM < c.dict) (f4 : 285 < c.dict) (f5 : c.dict < c.inst) (f6 : c.inst < c.src) : ∀ q ∈ [((M : Addr), oM), ((dM : Addr), odM), ((S : Addr), oS), (c.inst, instObj 161 c.dict), (c.dict, sesD w c)], q.1 ≠ c.src := by
  intro q hq
  refine off2 (o285 := oS) f1 f2 f3 f4 f5 f6 q (w := w) (oS := oS) (oM := oM) (odM := odM) ?_
  simp only [List.mem_cons, List.not_mem_nil, or_false] at hq ⊢
  rcases hq with z | z | z | z | z <;> simp [z]
theorem add_g {c : Ses} {g p : Int} (h : c.goal = g) (hne : g ≠ p) : (([c] : List Ses).any fun c => c.goal = p) = false := by
  rw [List.any_cons, List.any_nil, Bool.or_false, h]
  exact decide_eq_false hne
theorem lnW9_2 : True := by
  k_with "eval ListComp" => (k_here; k_dflt (refine comp_one (by k_asm) (by with_unfolding_all rfl) (by decide) (by rfl) (by decide) (by rfl) (by rfl) (by decide) ?_))
  k_with "call type:bytes" => (k_here; (with_reducible show wpAny _ _ (call (Value.type "bytes") [Value.bytes _ _]) _ _ _); refine call_bytes_same ?_)
  trivial
theorem fin.tw10098057777631523497 : True := trivial
theorem fin.tw1012361349325877821 : True := trivial
theorem fin.tw1014637456484912126 : True := trivial
theorem fin.tw10147658903529517814 : True := trivial
theorem fin.tw10196768644732416780 : True := trivial
theorem fin.tw10383673109516279431 : True := trivial
theorem fin.tw10391319463526535247 : True := trivial
theorem fin.tw10580198807604790814 : True := trivial
theorem fin.tw10599938827571368224 : True := trivial
theorem fin.tw10807920368746810246 : True := trivial
theorem fin.tw10829458402184033698 : True := trivial
theorem fin.tw10852849658779182186 : True := trivial
theorem fin.tw10874316729293906858 : True := trivial
theorem fin.tw10891054232620793217 : True := trivial
theorem fin.tw10895054467252067526 : True := trivial
theorem fin.tw10936777179133785780 : True := trivial
theorem fin.tw11066923882517893817 : True := trivial
theorem fin.tw11079828417688620724 : True := trivial
theorem fin.tw11112386831996348380 : True := trivial
theorem fin.tw111200028466390044 : True := trivial
theorem fin.tw11151619158091525091 : True := trivial
theorem fin.tw11192643925408225281 : True := trivial
theorem fin.tw11293339424137598113 : True := trivial
theorem fin.tw11298980531735778240 : True := trivial
theorem fin.tw11414674201277728305 : True := trivial
theorem fin.tw11454252539852477091 : True := trivial
theorem fin.tw11466478281803324712 : True := trivial
theorem fin.tw11587955951900863698 : True := trivial
theorem fin.tw11615019562542576733 : True := trivial
theorem fin.tw11953781441336167498 : True := trivial
theorem fin.tw12105171945263650130 : True := trivial
theorem fin.tw12118000046449163591 : True := trivial
theorem fin.tw12135189313929291683 : True := trivial
theorem fin.tw12141802397888321627 : True := trivial
theorem fin.tw12212933522069011988 : True := trivial
theorem fin.tw12355744275394475900 : True := trivial
theorem fin.tw12409915417874342407 : True := trivial
theorem fin.tw12480679962508375977 : True := trivial
theorem fin.tw1249118550022496774 : True := trivial
theorem fin.tw12494888245299231016 : True := trivial
theorem fin.tw1252854909445205041 : True := trivial
theorem fin.tw12550770813317053977 : True := trivial
theorem fin.tw12567809125941998234 : True := trivial
theorem fin.tw12629903358213643309 : True := trivial
theorem fin.tw12649782002744950493 : True := trivial
theorem fin.tw12669758225909598566 : True := trivial
theorem fin.tw12711679700452659978 : True := trivial
theorem fin.tw12740692763255036000 : True := trivial
theorem fin.tw12812245514280695025 : True := trivial
theorem fin.tw12829507556594621215 : True := trivial
theorem fin.tw12869217540446652890 : True := trivial
theorem fin.tw12876064707754696378 : True := trivial
theorem fin.tw12962497063298326498 : True := trivial
theorem fin.tw12996517811204074000 : True := trivial
theorem fin.tw1306319669024162852 : True := trivial
theorem fin.tw13066358836101814915 : True := trivial
theorem fin.tw13162651487661262736 : True := trivial
theorem fin.tw13177410634674063896 : True := trivial
theorem fin.tw13337293482115323266 : True := trivial
theorem fin.tw13360279666012451719 : True := trivial
theorem fin.tw13383306551100868464 : True := trivial
theorem fin.tw13423622936843584764 : True := trivial
theorem fin.tw13467322939085005891 : True := trivial
theorem fin.tw13724452099449386491 : True := trivial
theorem fin.tw13739837740158868884 : True := trivial
theorem fin.tw13790858721211988464 : True := trivial
theorem fin.tw13925877587632400325 : True := trivial
theorem fin.tw1397303283331804279 : True := trivial
theorem fin.tw14109310954907245088 : True := trivial
theorem fin.tw14139026862911339306 : True := trivial
theorem fin.tw14166196953294261902 : True := trivial
theorem fin.tw14210890002308233579 : True := trivial
theorem fin.tw1422313219903470601 : True := trivial
theorem fin.tw14431720936831517352 : True := trivial
theorem fin.tw14470914187005692979 : True := trivial
theorem fin.tw14472538251370321583 : True := trivial
theorem fin.tw14517287926952318261 : True := trivial
theorem fin.tw14560573928864763818 : True := trivial
theorem fin.tw14568449535678555946 : True := trivial
theorem fin.tw14574801432027512755 : True := trivial
theorem fin.tw14578271805448956485 : True := trivial
theorem fin.tw14856888987745899463 : True := trivial
theorem fin.tw15149952090015108872 : True := trivial
theorem fin.tw15205425988870721313 : True := trivial
theorem fin.tw15309079848183770524 : True := trivial
theorem fin.tw15344004072050561172 : True := trivial
theorem fin.tw1535588207084551279 : True := trivial
theorem fin.tw15373703851562958014 : True := trivial
theorem fin.tw15381588567084767970 : True := trivial
theorem fin.tw1544503264643628384 : True := trivial
theorem fin.tw15533503492667675913 : True := trivial
theorem fin.tw15564276425815640635 : True := trivial
theorem fin.tw15566928917628492161 : True := trivial
theorem fin.tw15583698165555649274 : True := trivial
theorem fin.tw15621619335703214680 : True := trivial
theorem fin.tw15815952407149668801 : True := trivial
theorem fin.tw15832999045522443761 : True := trivial
theorem fin.tw15989303212955285315 : True := trivial
theorem fin.tw16103849850496634939 : True := trivial
theorem fin.tw16115155874713506467 : True := trivial
theorem fin.tw1613116972386908190 : True := trivial
theorem fin.tw16175276709679454751 : True := trivial
theorem fin.tw16196181902256332553 : True := trivial
theorem fin.tw16229209127682248589 : True := trivial
theorem fin.tw16237762584071213788 : True := trivial
theorem fin.tw1625080806587739848 : True := trivial
theorem fin.tw16252508478716706905 : True := trivial
theorem fin.tw16256441300576474876 : True := trivial
theorem fin.tw16275787546110486726 : True := trivial
theorem fin.tw16285329926789087883 : True := trivial
theorem fin.tw16407147864228438881 : True := trivial
theorem fin.tw16421356062931815887 : True := trivial
theorem fin.tw16496857829328116044 : True := trivial
theorem fin.tw16510490156224867327 : True := trivial
theorem fin.tw16530489862217454893 : True := trivial
theorem fin.tw16656299143469825513 : True := trivial
theorem fin.tw1666694428299288667 : True := trivial
theorem fin.tw16889484823980962733 : True := trivial
theorem fin.tw16906536467411238026 : True := trivial
theorem fin.tw16934629359412608497 : True := trivial
theorem fin.tw16958243865122950064 : True := trivial
theorem fin.tw17067295170570645592 : True := trivial
theorem fin.tw17123178472405020103 : True := trivial
theorem fin.tw17197158672614542318 : True := trivial
theorem fin.tw17361756636278455780 : True := trivial
theorem fin.tw17362494058136835672 : True := trivial
theorem fin.tw17416127249078093707 : True := trivial
theorem fin.tw17449020081951674710 : True := trivial
theorem fin.tw17570709534508481193 : True := trivial
theorem fin.tw17656766251404061198 : True := trivial
theorem fin.tw17662344363894024548 : True := trivial
theorem fin.tw17717364068325071970 : True := trivial
theorem fin.tw17743408960866722510 : True := trivial
theorem fin.tw17784850919643140607 : True := trivial
theorem fin.tw17801579834951734752 : True := trivial
theorem fin.tw17861066769153400444 : True := trivial
theorem fin.tw17869975865946814897 : True := trivial
theorem fin.tw17896612028031085017 : True := trivial
theorem fin.tw17933470926392208243 : True := trivial
theorem fin.tw17963964198891936676 : True := trivial
theorem fin.tw17974384156558142227 : True := trivial
theorem fin.tw18105285910621931680 : True := trivial
theorem fin.tw18105942590061964161 : True := trivial
theorem fin.tw1819255440876223710 : True := trivial
theorem fin.tw18195182924450695511 : True := trivial
theorem fin.tw18230178534529381785 : True := trivial
theorem fin.tw18295790063311454060 : True := trivial
theorem fin.tw18373065035072037172 : True := trivial
theorem fin.tw1887099378405440850 : True := trivial
theorem fin.tw1921391257341544841 : True := trivial
theorem fin.tw1963134401048803436 : True := trivial
theorem fin.tw1982079694162106894 : True := trivial
theorem fin.tw2086631506510373192 : True := trivial
theorem fin.tw216489041496292469 : True := trivial
theorem fin.tw2304379251839397102 : True := trivial
theorem fin.tw2305881189932309285 : True := trivial
theorem fin.tw2321816554428607280 : True := trivial
theorem fin.tw2367325634123391141 : True := trivial
theorem fin.tw2386126689217763390 : True := trivial
theorem fin.tw2462912638960843985 : True := trivial
theorem fin.tw2512408688544751470 : True := trivial
theorem fin.tw251868834278440796 : True := trivial
theorem fin.tw2608567993692976607 : True := trivial
theorem fin.tw2656788454239962097 : True := trivial
theorem fin.tw2866121171748074186 : True := trivial
theorem fin.tw2910385600587045654 : True := trivial
theorem fin.tw3004984022683251337 : True := trivial
theorem fin.tw3105451386036433885 : True := trivial
theorem fin.tw3125960719983571848 : True := trivial
theorem fin.tw3173534031939492945 : True := trivial
theorem fin.tw3199103547748192838 : True := trivial
theorem fin.tw3263211703599914710 : True := trivial
theorem fin.tw3314143786362844604 : True := trivial
theorem fin.tw3343445320678177929 : True := trivial
theorem fin.tw3404873503106905745 : True := trivial
theorem fin.tw3599858809825778643 : True := trivial
theorem fin.tw3645332910739020898 : True := trivial
theorem fin.tw3683778510129048087 : True := trivial
theorem fin.tw3810338749695602999 : True := trivial
theorem fin.tw3810570522144960214 : True := trivial
theorem fin.tw3837020019201816242 : True := trivial
theorem fin.tw3975253019698251321 : True := trivial
theorem fin.tw4040260094072895976 : True := trivial
theorem fin.tw4170516301191304579 : True := trivial
theorem fin.tw4209717502836232480 : True := trivial
theorem fin.tw4218790737952374519 : True := trivial
theorem fin.tw428092273266315144 : True := trivial
theorem fin.tw4312942655851389009 : True := trivial
theorem fin.tw4326780796455107134 : True := trivial
theorem fin.tw452842511749404161 : True := trivial
theorem fin.tw4598667867955821814 : True := trivial
theorem fin.tw4640724917100965312 : True := trivial
theorem fin.tw4684940682943077961 : True := trivial
theorem fin.tw4719063310657182621 : True := trivial
theorem fin.tw4759752924163587094 : True := trivial
theorem fin.tw4768634762848416435 : True := trivial
theorem fin.tw4788878847521262168 : True := trivial
theorem fin.tw480829909506669009 : True := trivial
theorem fin.tw4868334931027891882 : True := trivial
theorem fin.tw4878226113927451544 : True := trivial
theorem fin.tw4879674094562380441 : True := trivial
theorem fin.tw4898026214463823928 : True := trivial
theorem fin.tw4924110625330727750 : True := trivial
theorem fin.tw4928979718650693569 : True := trivial
theorem fin.tw4950403968356008110 : True := trivial
theorem fin.tw5073790198343104882 : True := trivial
theorem fin.tw5098551885099359569 : True := trivial
theorem fin.tw5102460946473063141 : True := trivial
theorem fin.tw5293390819737331289 : True := trivial
theorem fin.tw5320702786494000081 : True := trivial
theorem fin.tw544173102793226557 : True := trivial
theorem fin.tw5486226609284752418 : True := trivial
theorem fin.tw5678346346211369953 : True := trivial
theorem fin.tw5734618986648460908 : True := trivial
theorem fin.tw5776136370200156792 : True := trivial
theorem fin.tw5805905742469029177 : True := trivial
theorem fin.tw5897612983314593646 : True := trivial
theorem fin.tw5901363791540438844 : True := trivial
theorem fin.tw6068950659093879613 : True := trivial
theorem fin.tw6081921254191324426 : True := trivial
theorem fin.tw6127190174262240918 : True := trivial
theorem fin.tw612862322836996645 : True := trivial
theorem fin.tw6131478504467597330 : True := trivial
theorem fin.tw6207176494656529804 : True := trivial
theorem fin.tw6454446336052903152 : True := trivial
theorem fin.tw6498334528663615478 : True := trivial
theorem fin.tw6515953530934532768 : True := trivial
theorem fin.tw6531376189190222733 : True := trivial
theorem fin.tw6567050819087999508 : True := trivial
theorem fin.tw6650461044873433052 : True := trivial
theorem fin.tw6667815254911646788 : True := trivial
theorem fin.tw670465573061467203 : True := trivial
theorem fin.tw6707113841082798463 : True := trivial
theorem fin.tw6718411051458867188 : True := trivial
theorem fin.tw6766580051018981234 : True := trivial
theorem fin.tw6956187926921108005 : True := trivial
theorem fin.tw6968583824967984638 : True := trivial
theorem fin.tw7000300075881102575 : True := trivial
theorem fin.tw7055459427971326715 : True := trivial
theorem fin.tw7282745182861764756 : True := trivial
theorem fin.tw7380833856163905736 : True := trivial
theorem fin.tw744865244796547220 : True := trivial
theorem fin.tw7472291436863326401 : True := trivial
theorem fin.tw7522001649326652513 : True := trivial
theorem fin.tw757079261281740938 : True := trivial
theorem fin.tw7613945582906998725 : True := trivial
theorem fin.tw7675655780812522254 : True := trivial
theorem fin.tw7684487725183542926 : True := trivial
theorem fin.tw7779959011674639804 : True := trivial
theorem fin.tw7803649310394182010 : True := trivial
theorem fin.tw7976502392129159676 : True := trivial
theorem fin.tw7995362448368537469 : True := trivial
theorem fin.tw8025084765662995669 : True := trivial
theorem fin.tw807531904560671035 : True := trivial
theorem fin.tw8119881530291889089 : True := trivial
theorem fin.tw8269367382603917829 : True := trivial
theorem fin.tw8272817396058243321 : True := trivial
theorem fin.tw8330952907988395303 : True := trivial
theorem fin.tw8383268338085895543 : True := trivial
theorem fin.tw8399098705505230059 : True := trivial
theorem fin.tw8408514402456403777 : True := trivial
theorem fin.tw8416529770105884409 : True := trivial
theorem fin.tw846297522682114974 : True := trivial
theorem fin.tw8577089030196625639 : True := trivial
theorem fin.tw8643116662766533202 : True := trivial
theorem fin.tw876206183137641144 : True := trivial
theorem fin.tw8885433408608941703 : True := trivial
theorem fin.tw891787732878383699 : True := trivial
theorem fin.tw8942474457413960924 : True := trivial
theorem fin.tw8947099994592609211 : True := trivial
theorem fin.tw895571856199123645 : True := trivial
theorem fin.tw9001875181463519149 : True := trivial
theorem fin.tw9218923581257491847 : True := trivial
theorem fin.tw9363291351745731410 : True := trivial
theorem fin.tw9387745189664136937 : True := trivial
theorem fin.tw9544026089342320630 : True := trivial
theorem fin.tw9722632081671974098 : True := trivial
theorem fin.tw9735714214384596553 : True := trivial
theorem fin.tw9746901515087519452 : True := trivial
theorem fin.tw9806666330580929782 : True := trivial
theorem fin.tw9913140749668108558 : True := trivial
theorem fin.tw999798209818781672 : True := trivial
theorem fin.tw11539556534233449701 : True := trivial
set_option Elab.async true in
theorem fin : PySem.Challenge.rw_pc0365_01.Holds := by
  w_on
  o_law
  o_head (kHook pre.heap_1 [2, 3, 15, 17, 18, 20, 21, 22, 29, 31, 32, 34, 35, 36, 37, 38, 39, 42, 49, 50, 51, 61, 63, 64, 66, 67, 68, 70, 71, 73, 74, 75, 76, 77, 78, 79, 89, 91, 92, 94, 95, 96, 99, 100, 101, 102, 104, 105, 107, 108, 109, 110, 111, 112, 113, 116, 118, 119, 121, 122, 123, 125, 126, 128, 129, 130, 138, 140, 141, 143, 144, 145, 147, 148, 150, 151, 152, 154, 155, 157, 158, 159, 160, 161, 162, 163, 173, 174, 176, 177, 179, 180, 181, 184, 185, 186, 189, 190, 191, 192, 194, 195, 197, 198, 199, 201, 202, 204, 205, 206, 208, 209, 211, 212, 213, 215, 216, 218, 219, 220, 222, 223, 225, 226, 227, 229, 230, 232, 233, 234, 235, 236, 237, 238, 241, 243, 244, 246, 247, 248, 250, 251, 253, 254, 255, 257, 258, 260, 261, 262, 265, 266, 267, 269, 270, 272, 273, 274, 277, 278, 279, 282, 283, 284, 286, 287, 289, 290, 291, 294, 295, 296, 299, 300] (fun _ => by kernel_rfl))
  (case hw => w_witness2)
  w_top off
  k_go0
  rename World => w9
  all_goals (try k_fold)
  k_steps
  unfold Stop
  rename News _ _ _ ((_, _) :: (_, instObj 236 _) :: _) => N1
  obtain ⟨M1, dM1, S1, oS1, t1, t2, tm, nM, rfl, rfl, rfl, rfl, N2⟩ := mir_packed N1
  clear N1
  have e1 : @Ne Nat M1 S1 := by omega
  have e2 : @Ne Nat dM1 S1 := by omega
  have e3 : @Ne Nat 285 S1 := by omega
  k_dflt (refine' make_spec3 (S := S1) (oS := oS1) (dM := dM1) (t1 := t1) (t2 := t2) (tm := tm) (nM := nM) (σ := []) ?B1 ?F1 ?X1 ?N1 ?T1 ?kk1 ?off1 ?m1 ?d1 ?u1 ?S1 ?l1 List.nodup_nil (Nat.zero_le _) (fun c hc => by cases hc) ?_ (fun h => absurd ⟨rfl, by decide, rfl, rfl⟩ h); (case B1 => k_asm); (case F1 => k_asm); (case X1 => k_asm); (case N1 => k_asm); (case T1 => k_asm); (case kk1 => first | exact rfl | assumption); (case off1 => exact neT2 e1 e2 (fun q hq => by simp only [List.mem_cons, List.not_mem_nil, or_false] at hq; rw [hq]; exact e3)); (case m1 => exact memT2 (.head _) (.tail _ (.head _)) (fun q hq => by cases hq)); (case d1 => ktr_room); (case u1 => ktr_units); (case S1 => assumption); (case l1 => assumption))
  intro _ h2 tk2 inst d src1 so1 oS2 s1 s2 s3 n1 F2 N3 k1 k2 k3 k4 k5 k6
  obtain ⟨c, rfl, rfl, rfl, cnum, cgoal, ckv, cok, N4⟩ := ses_packed (num := 1) N3 k2 k3
  clear N3
  have f1 : @LT.lt Nat _ S1 c.dict := k4 _ (.head _)
  have f2 : @LT.lt Nat _ M1 c.dict := k4 _ (.tail _ (.head _))
  have f3 : @LT.lt Nat _ dM1 c.dict := k4 _ (.tail _ (.tail _ (.head _)))
  have f4 : @LT.lt Nat _ 285 c.dict := k4 _ (.tail _ (.tail _ (.tail _ (.head _))))
  have f5 : @LT.lt Nat _ c.dict c.inst := k5
  have f6 : @LT.lt Nat _ c.inst c.src := k6
  have k1s := start_kv cnum k1
  k_sweep
  k_steps
  unfold Stop
  k_dflt (refine' add_okN (c := c) (S := S1) (oS := oS2) (dM := dM1) (t1 := t1) (t2 := t2) (tm := tm) (nM := nM) (σ := [c]) ?B2 ?F2 ?X2 ?N2 ?T2 ?kk2 cnum ?off2 ?off52 ?m2 ?d2 ?u2 ?S2 ?l2 ?n2 ?len2 ?ok2 (.head _) ?good2 ?_; (case B2 => k_asm); (case F2 => k_asm); (case X2 => k_asm); (case N2 => k_asm); (case T2 => k_asm); (case kk2 => first | exact rfl | assumption); (case off2 => exact off2 f1 f2 f3 f4 f5 f6); (case off52 => exact off3 f1 f2 f3 f4 f5 f6); (case m2 => exact mem_three (by k_mem) (by k_mem) (by k_mem) (fun q hq => by rw [ledM_one] at hq; simp only [Ses.led3, List.mem_cons, List.not_mem_nil, or_false] at hq; rcases hq with rfl | rfl | rfl <;> k_mem)); (case d2 => ktr_room); (case u2 => ktr_units); (case S2 => exact k1s); (case l2 => assumption); (case n2 => exact List.nodup_cons.mpr ⟨List.not_mem_nil, List.nodup_nil⟩); (case len2 => exact Nat.le_of_ble_eq_true rfl); (case ok2 => exact fun x hx => (List.mem_singleton.mp hx).symm ▸ cok); (case good2 => exact ⟨by decide +kernel, add_g cgoal (by decide)⟩))
  intro h4 tk4 so4 v4 F4 N5 k7
  obtain ⟨c2, ci, cd, cs, csd, cnum2, cgoal2, ckv2, cok2, N6⟩ := upd_packed N5 cok ckv k7
  have k1t := kv_up k1s ci cnum2
  clear N5
  replace N6 := led_up N6 ci cd csd
  k_sweep
  k_steps
  unfold Stop
  rename News _ _ _ ((_, instObj 111 _) :: _) => N7
  obtain ⟨f, rfl, rfl, rfl, hgs, N8⟩ := frame_packed (gs := []) N7
  clear N7
  have hft : f.tags = [] := hgs.symm
  k_dflt (refine' copies_specM (f := f) (S := S1) (oS := oS2) (dM := dM1) (t1 := t1) (t2 := t2) (tm := tm) (nM := nM) (σ := [c2]) ?B3 ?F3 ?X3 ?N3 ?T3 ?kk3 ?m3 ?hf3 (.inl hft) ?d3 ?u3 ?S3 ?l3 ?n3 ?len3 ?ok3 ?_; (case B3 => k_asm); (case F3 => k_asm); (case X3 => k_asm); (case N3 => k_asm); (case T3 => k_asm); (case kk3 => first | exact rfl | assumption); (case m3 => exact mem_three (by k_mem) (by k_mem) (by k_mem) (fun q hq => by rw [ledM_one] at hq; simp only [Ses.led3, List.mem_cons, List.not_mem_nil, or_false] at hq; rcases hq with rfl | rfl | rfl <;> k_mem)); (case hf3 => exact mem_three (by k_mem) (by k_mem) (by k_mem) (fun q hq => by rw [hft] at hq; cases hq)); (case d3 => ktr_room); (case u3 => ktr_units); (case S3 => exact k1t); (case l3 => assumption); (case n3 => exact List.nodup_cons.mpr ⟨List.not_mem_nil, List.nodup_nil⟩); (case len3 => exact Nat.le_of_ble_eq_true rfl); (case ok3 => exact fun x hx => (List.mem_singleton.mp hx).symm ▸ cok2))
  intro h5 tk5 D5 acc5 n5 cps ns add5 F5 N9 off5 offA5 hacc hcps hp5 hs5 hmap
  obtain ⟨cp, rfl, hcc⟩ := one_copy hp5 ckv2 (by decide +kernel) hmap
  subst hacc
  have hcpok := hcps cp (.head _)
  have hg4 : cp.c.goal = 4 := by rw [hcc, cgoal2, cgoal]
  have hT4 := hcpok.1
  rw [hg4] at hT4
  have N10 := led_three N9 hT4
  clear N9 off5 offA5 hcps hcpok
  refine ⟨D5, cp.tup, _, _, _, n5, _, rfl, rfl, F5, N10, .head _, .tail _ (.head _), ?_, ?_⟩
  · intro I oI C oC D' m₂ h tk E' hNs hx hx2 F12 N12 off12 ne12
    unfold OneTurn
    k_steps
    exact CompEnd.intro F12 N12 _ (fun q hq => hq) off12 rfl ⟨rfl, rfl⟩
  · intro D' h6 tk6 F6 N11 o6
    k_sweep
    k_steps
    unfold Stop
    k_dflt (refine' pool_spec ?B4 ?F4 ?X4 ?N4 ?T4 ?kk4 ?hl4 ?hi4 ?len4 ?d4 ?u4 ?_; (case B4 => k_asm); (case F4 => k_asm); (case X4 => k_asm); (case N4 => k_asm); (case T4 => k_asm); (case kk4 => first | exact rfl | assumption); (case hl4 => assumption); (case hi4 => assumption); (case len4 => omega); (case d4 => ktr_room); (case u4 => ktr_units))
    intro h7 tk7 src x y tx ty n y0 y1 F7 N12 lsrc
    have ls1 : @LT.lt Nat _ 285 src := lsrc (285, tabObj #[]) (by k_mem)
    k_sweep
    k_steps
    unfold Stop
    rename News _ _ _ ((_, _) :: (_, _) :: (_, _) :: (_, instObj 236 _) :: _) => N13
    obtain ⟨M, dM, S, O, oS, oO, u1, u2, um, nM2, rfl, rfl, rfl, rfl, rfl, rfl, N14⟩ := law_packed N13
    clear N13
    have nd : ([M, dM, S, O, src, 285] : List Nat).Nodup := by
      simp only [List.nodup_cons, List.mem_cons, List.not_mem_nil, or_false, not_or, not_false_eq_true, List.nodup_nil, and_true]
      omega
    k_dflt (refine' take_specU ?B5 ?F5 ?X5 ?N5 ?T5 ?kk5 ?U5 ?d5 ?u5 ?ta5 ?tb5 ?ya5 ?yb5 ?_; (case B5 => k_asm); (case F5 => k_asm); (case X5 => k_asm); (case N5 => k_asm); (case T5 => k_asm); (case kk5 => first | exact rfl | assumption); (case U5 => k_updF); (case d5 => ktr_room); (case u5 => ktr_units); (case ta5 => decide); (case tb5 => decide); (case ya5 => assumption); (case yb5 => assumption))
    intro d8 e8 x8 y8 tx8 ty8 n8 h8 tk8 da8 db8 ya8 yb8 F8 N15
    try dsimp only at N15
    k_sweep
    k_steps
    unfold Stop
    obtain ⟨nr, hr1, hr2⟩ := small_range da8 db8
    rename Fr _ _ _ _ => F16
    rename News _ _ _ _ => N16
    refine range_inv (LawJ Challenge.rw_pc0365_01.row.prog w9 M dM S O src u1 u2 um nM2 _) rfl (by assumption) hr1 hr2 F16 N16 ⟨fun z _ => rfl, [], [], #[], oS, oO, x8, y8, tx8, ty8, n8, rfl, Inv.start (by assumption) (by assumption) (by assumption) (by assumption) nd, ya8, yb8⟩ ?_ ?_
    · rintro v m₁ nx h17 tk17 own hoff ⟨hm, σ, oth, ps, oSv, oOv, xv, yv, txv, tyv, nv, rfl, I17, yav, ybv⟩ F17 N17
      rw [turn_map hm] at F17
      obtain ⟨own', ho1, ho2⟩ := once (own := own) fun q hq => N17 q (List.mem_append_right _ hq)
      have N18 := ledger_sub (l' := stLed w9 M dM S O src u1 u2 um nM2 oSv oOv xv yv txv tyv nv ps σ (oth ++ own')) N17 (by
        intro q hq
        rw [st_app] at hq
        exact (List.mem_append.mp hq).elim (List.mem_append_left _) fun h => List.mem_append_right _ ((ho1 q).mp h))
      have I18 := I17.more (t1 := u1) (t2 := u2) (tm := um) (nM := nM2) (x := xv) (y := yv) (tx := txv) (ty := tyv) (nn := nv) ho2 fun q hq b hb => hoff q ((ho1 q).mp hq) b hb
      clear N17
      k_sweep
      k_steps
      unfold Stop
      refine deed_spec (dM := dM) (t1 := u1) (t2 := u2) (tm := um) (nM := nM2) (S := S) (oS := oSv) (oO := oOv) (σ := σ) (x := xv) (y := yv) (tx := txv) (ty := tyv) (nn := nv) (ps := ps) (oth := oth) (keep := own') (by assumption) (by k_asm) (by k_asm) (by k_asm) rfl (by assumption) (by assumption) (by assumption) N18 I18 I17.tab yav ybv (by ktr_room) (by ktr_units) ?_
      intro h19 tk19 oS9 oO9 x9 y9 tx9 ty9 n9 ps9 σ9 newc9 F19 N19 I19 tab19 ya19 yb19
      clear N18
      k_sweep
      k_steps
      unfold Stop
      refine right_spec (dM := dM) (t1 := u1) (t2 := u2) (tm := um) (nM := nM2) (S := S) (oS := oS9) (oO := oO9) (σ := σ9) (x := x9) (y := y9) (tx := tx9) (ty := ty9) (nn := n9) (ps := ps9) (oth := newc9 ++ (oth ++ own')) (by assumption) (by k_asm) (by k_asm) (by k_asm) rfl N19 I19 ya19 yb19 (by ktr_room) (by ktr_units) ?_
      intro h20 tk20 x20 y20 tx20 ty20 n20 F20 N20 ya20 yb20
      clear N19
      k_sweep
      k_steps
      trace_state
      refine InvEndG.intro F20 N20 ⟨fun z hz => if_neg hz, σ9, newc9 ++ oth, ps9, oS9, oO9, x20, y20, tx20, ty20, n20, rfl, I19.less tab19, ya20, yb20⟩ ?_ ?_ ?_
      · exact fun q hq b hb => I19.apart (t1 := u1) (t2 := u2) (tm := um) (nM := nM2) (x := x20) (y := y20) (tx := tx20) (ty := ty20) (nn := n20) q ((ho1 q).mpr hq) b hb
      · exact st_less
      · exact fun q hq => st_keep ((ho1 q).mpr hq)
    · rintro m₁ nx h17 tk17 ⟨hm, σ, oth, ps, oSv, oOv, xv, yv, txv, tyv, nv, rfl, I17, yav, ybv⟩ F17 N17
      k_steps

end
end Mine
end

theorem PySem.Challenge.cw_pc0365_01_holds : PySem.Challenge.rw_pc0365_01.Holds :=
  Mine.fin
