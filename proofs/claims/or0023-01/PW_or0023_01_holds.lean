import PyProof.Rows.All
import Wide.All
import OpenK.AllK
import Wide.FinOn
import Lean
import PySem.Challenge.RW_or0023_01
open PySem PySem.W PyProof.Rows PySem.Calls PySem.Spec
set_option Elab.async false
set_option maxRecDepth 100000
set_option maxHeartbeats 16000000
set_option linter.unusedVariables false
namespace Mine
section
open PySem.Builtin
theorem slot_find : Slot "bytes" "find" "bytes.find" :=
  .of (owner := "bytes") (n := "find") (by rw [typeLookup_type, builtinLookup_eq_fast]; kernel_rfl) (by decide +kernel) (by decide +kernel) (by decide +kernel)
    (by first | exact .inl (by decide +kernel) | exact .inr (by decide +kernel)) (by rw [isSubtype_type]; kernel_rfl)
theorem type_find : typeOf (.builtin "bytes.find") = pure (.type "method_descriptor") := by show builtinType _ = _; rw [builtinType_eq_fast]; kernel_rfl
theorem entry_find : entryFor table "bytes.find" = some Builtin.«bytes.find» := entryFor_of_tree (by kernel_rfl)
theorem args_find (a b c d : Value) : argsOk "bytes.find" ⟨[a, b, c, d], []⟩ := by
  unfold argsOk; rw [signature?_of (id := "bytes.find") (n := ['d', 'n', 'i', 'f']) (o := ['s', 'e', 't', 'y', 'b']) (by kernel_rfl) FB.owner_bytes]; kernel_rfl
theorem slot_strip : Slot "bytes" "strip" "bytes.strip" :=
  .of (owner := "bytes") (n := "strip") (by rw [typeLookup_type, builtinLookup_eq_fast]; kernel_rfl) (by decide +kernel) (by decide +kernel) (by decide +kernel)
    (by first | exact .inl (by decide +kernel) | exact .inr (by decide +kernel)) (by rw [isSubtype_type]; kernel_rfl)
theorem type_strip : typeOf (.builtin "bytes.strip") = pure (.type "method_descriptor") := by show builtinType _ = _; rw [builtinType_eq_fast]; kernel_rfl
theorem entry_strip : entryFor table "bytes.strip" = some Builtin.«bytes.strip» := entryFor_of_tree (by kernel_rfl)
theorem args_strip (a b : Value) : argsOk "bytes.strip" ⟨[a, b], []⟩ := by
  unfold argsOk; rw [signature?_of (id := "bytes.strip") (n := ['p', 'i', 'r', 't', 's']) (o := ['s', 'e', 't', 'y', 'b']) (by kernel_rfl) FB.owner_bytes]; kernel_rfl
theorem slot_join : Slot "bytes" "join" "bytes.join" :=
  .of (owner := "bytes") (n := "join") (by rw [typeLookup_type, builtinLookup_eq_fast]; kernel_rfl) (by decide +kernel) (by decide +kernel) (by decide +kernel)
    (by first | exact .inl (by decide +kernel) | exact .inr (by decide +kernel)) (by rw [isSubtype_type]; kernel_rfl)
theorem type_join : typeOf (.builtin "bytes.join") = pure (.type "method_descriptor") := by show builtinType _ = _; rw [builtinType_eq_fast]; kernel_rfl
theorem entry_join : entryFor table "bytes.join" = some Builtin.«bytes.join» := entryFor_of_tree (by kernel_rfl)
theorem args_join (a b : Value) : argsOk "bytes.join" ⟨[a, b], []⟩ := by
  unfold argsOk; rw [signature?_of (id := "bytes.join") (n := ['n', 'i', 'o', 'j']) (o := ['s', 'e', 't', 'y', 'b']) (by kernel_rfl) FB.owner_bytes]; kernel_rfl

section
variable {M : Model} {A : Around} {E : Value → Shared → Prop} {s : Shared} {b : Array UInt8} {t : Tok} {pl : Sem Bool} {Q : Value × List Value → Shared → Prop}
theorem getm_find (h : Q (.builtin "bytes.find", [.bytes b t]) s) : wpAny M A (getMethod (.bytes b t) "find" pl) Q E s := by
  with_reducible exact KBd.method_of (.bytes b t) (typeIs_bytes _ _ _) slot_find type_find KBd.noRef h
theorem getm_strip (h : Q (.builtin "bytes.strip", [.bytes b t]) s) : wpAny M A (getMethod (.bytes b t) "strip" pl) Q E s := by
  with_reducible exact KBd.method_of (.bytes b t) (typeIs_bytes _ _ _) slot_strip type_strip KBd.noRef h
theorem getm_join (h : Q (.builtin "bytes.join", [.bytes b t]) s) : wpAny M A (getMethod (.bytes b t) "join" pl) Q E s := by
  with_reducible exact KBd.method_of (.bytes b t) (typeIs_bytes _ _ _) slot_join type_join KBd.noRef h
end

/-- what bytes.find gives for a sub of one octet, from lo up to hi -/
def fnd (b : Array UInt8) (c : UInt8) (lo hi : Int) : Int :=
  match (if hi - lo < 1 then (none : Option (Nat × Nat)) else some (lo.toNat, hi.toNat)).bind fun (x : Nat × Nat) => Bytes.find? b #[c] x.1 x.2 with
  | some i => (i : Int)
  | none => -1

theorem bound_int {i : Int} {t : Tok} {M : Model} {A : Around} {E : Value → Shared → Prop} {s : Shared} {Q : Option Int → Shared → Prop} (h : Q (some i) s) : wpAny M A (Bytes.bound? (some (.int i t))) Q E s := by
  unfold Bytes.bound?
  refine wpAny_bind (wpAny_specialOf (typeIs_int s i t) F.slot_int_index.lookup ?_)
  exact wpAny_bind (wpAny_of_eq (a := i) rfl (wpAny_pure h))

theorem gives_find (b : Array UInt8) (c : UInt8) (lo hi : Int) (t u t1 t2 : Tok) (h0 : 0 ≤ lo) (h1 : 0 ≤ hi) (h2 : hi ≤ b.size) :
    Gives («bytes.find» ⟨[.bytes b t, .bytes #[c] u, .int lo t1, .int hi t2], []⟩) (.int (fnd b c lo hi)) := by
  refine .of_wp fun M A E s Q hq => ?_
  show wpAny M A (Bytes.searchArgs .bytes "find" _ >>= fun r => _) _ E s
  refine wpAny_bind ?_
  unfold Bytes.searchArgs
  show wpAny M A (selfAndSome _ _ 1 3 _ >>= fun r => _) _ E s
  refine wpAny_bind (wpAny_of_eq (a := (.bytes b t, [.bytes #[c] u, .int lo t1, .int hi t2])) (by kernel_rfl) ?_)
  refine wpAny_bind (bound_int ?_)
  refine wpAny_bind (bound_int ?_)
  refine wpAny_bind (wpAny_of_eq KBy.buffer_eq ?_)
  refine wpAny_bind (wpAny_pure ?_)
  refine wpAny_bind (wpAny_of_eq (a := b) rfl ?_)
  have hw : Bytes.window b.size (some lo) (some hi) = (lo, hi) := by
    unfold Bytes.window
    simp only [Option.getD_some]
    rw [if_neg (by omega), if_neg (by omega)]
    rw [show min (b.size : Int) hi = hi from by omega]
  have e1 : ((#[c] : Array UInt8).size : Int) = 1 := rfl
  dsimp only
  rw [hw]
  refine wpAny_pure ?_
  dsimp only
  simp only [e1, Bool.false_eq_true, if_false]
  unfold fnd at hq
  cases hr : ((if hi - lo < 1 then (none : Option (Nat × Nat)) else some (lo.toNat, hi.toNat)).bind fun (x : Nat × Nat) => Bytes.find? b #[c] x.1 x.2) with
  | some i =>
    rw [hr] at hq
    exact wpAny_bind (wpAny_mkInt (wpAny_pure ⟨_, rfl, hq⟩))
  | none =>
    rw [hr] at hq
    refine wpAny_bind (wpAny_rule ?_)
    exact wpAny_bind (wpAny_mkInt (wpAny_pure ⟨_, rfl, hq⟩))

/-- what data.find(one octet, lo, hi) gives -/
def fndL (l : List UInt8) (c : UInt8) (lo hi : Int) : Int := fnd l.toArray c lo hi
theorem fndL_bd (l : List UInt8) (c : UInt8) (lo hi : Int) (h0 : 0 ≤ lo) : -1 ≤ fndL l c lo hi ∧ (0 ≤ fndL l c lo hi → lo ≤ fndL l c lo hi ∧ fndL l c lo hi < hi) := by
  unfold fndL fnd
  by_cases hlt : hi - lo < 1
  · rw [if_pos hlt]; simp
  · rw [if_neg hlt]
    simp only [Option.bind_some]
    cases hf : Bytes.find? l.toArray #[c] lo.toNat hi.toNat with
    | none => simp
    | some i =>
      unfold Bytes.find? at hf
      have hm := List.mem_of_find?_eq_some hf
      simp only [List.mem_map, List.mem_range, List.size_toArray, List.length_cons, List.length_nil] at hm
      obtain ⟨j, hj, rfl⟩ := hm
      refine ⟨by simp; omega, fun _ => ⟨by simp; omega, ?_⟩⟩
      simp
      omega
section
variable {prog : Program} {w : World} {A : Around} {E : Value → Shared → Prop} {s : Shared} {l k : List UInt8} {c : UInt8} {lo hi i : Int} {t u t1 t2 : Tok} {Q : Value → Shared → Prop} {value slice : PySem.Expr} {h₀ : Heap} {L : Addr} {m : PySem.Str → Option Value} {news : List (Addr × Obj)}
theorem find_L (h0 : 0 ≤ lo) (h1 : 0 ≤ hi) (h2 : hi ≤ (l.length : Int)) (h : ∀ t' k, (-1 ≤ fndL l c lo hi ∧ (0 ≤ fndL l c lo hi → lo ≤ fndL l c lo hi ∧ fndL l c lo hi < hi)) → Q (.int (fndL l c lo hi) t') { s with toks := k }) :
    wpAny (model prog w) A (call (.builtin "bytes.find") [.bytes l.toArray t, .bytes [c].toArray u, .int lo t1, .int hi t2]) Q E s :=
  call_meets slot_find (typeIs_bytes _ _ _) entry_find (args_find _ _ _ _) (gives_find l.toArray c lo hi t u t1 t2 h0 h1 h2).meets (h _ _ (fndL_bd l c lo hi h0))
theorem add_L (hz : l.length + k.length ≤ 16777216) (h : ∀ t' n, Q (.bytes (l ++ k).toArray t') { s with toks := n }) :
    wpAny (model prog w) A (binaryOp .Add (.bytes l.toArray t) (.bytes k.toArray u)) Q E s :=
  KBy.add_bytes (by simpa using hz) fun t' n => by rw [List.append_toArray]; exact h t' n
theorem len_L (hz : l.length ≤ 16777216) (h : ∀ t' n, Q (.int (l.length : Nat) t') { s with toks := n }) :
    wpAny (model prog w) A (call (.builtin "len") [.bytes l.toArray t]) Q E s :=
  len_bytes (by rw [List.size_toArray]; omega) (by rw [List.size_toArray]; exact h _ _)
theorem item_L {ui : Tok} (hz : l.length ≤ 16777216) (h0 : 0 ≤ i) (h1 : i < (l.length : Int)) (h : ∀ t' n, Q (.int ((l.getD i.toNat 0).toNat : Nat) t') { s with toks := n })
    (hs : subscripted slice false (.bytes l.toArray t) (.int i ui) = operate [.bytes l.toArray t, .int i ui] (getItem (.bytes l.toArray t) (.int i ui)) := by with_unfolding_all rfl)
    (ht : ∀ r, letTemporaryGo value (.bytes l.toArray t) r = pure () := by intro _; with_unfolding_all rfl) :
    wpAny (model prog w) A (subscriptTail value slice (.bytes l.toArray t) (.int i ui)) Q E s :=
  KBy.item_N (by omega) h0 h1 (h _ _) hs ht
/-- data[lo:hi] -/
def cutL (l : List UInt8) (lo hi : Int) : List UInt8 := (l.drop lo.toNat).take (hi.toNat - lo.toNat)
theorem cutL_len_le : (cutL l lo hi).length ≤ l.length := by unfold cutL; rw [List.length_take, List.length_drop]; omega
theorem cutL_len (h0 : 0 ≤ lo) (h1 : lo ≤ hi) (h2 : hi ≤ (l.length : Int)) : ((cutL l lo hi).length : Int) = hi - lo := by unfold cutL; rw [List.length_take, List.length_drop]; omega
theorem slice_L {x y : Value} (hF : Fr h₀ L s.heap m) (hN : News h₀ L s.heap news) (hx : x = .int lo t1) (hy : y = .int hi t2) (h0 : 0 ≤ lo) (h1 : lo ≤ hi) (h2 : hi ≤ (l.length : Int)) (hz : l.length ≤ 16777216)
    (h : ∀ h' t' n, Fr h₀ L h' m → News h₀ L h' news → Q (.bytes (cutL l lo hi).toArray t') { s with heap := h', toks := n })
    (hs : subscripted slice false (.bytes l.toArray t) (.ref s.heap.objs.size) = operate [.ref s.heap.objs.size, .bytes l.toArray t] (getItem (.bytes l.toArray t) (.ref s.heap.objs.size)) := by with_unfolding_all rfl)
    (ht : ∀ r, letTemporaryGo value (.bytes l.toArray t) r = pure () := by intro _; with_unfolding_all rfl) :
    wpAny (model prog w) A (subscriptTail value slice (.bytes l.toArray t) (.ref s.heap.objs.size)) Q E { s with heap := s.heap.push { cls := .type "slice", data := .fields #[x, y, .none] } } := by
  subst hx hy
  refine KBc.slice_K (lo := some lo) (hi := some hi) hF hN rfl (by constructor) (by constructor) (by rw [KBw.ints_length, List.size_toArray]; exact hz) (fun h' t' n F N _ => ?_) hs ht
  have e : KBy.picked l.toArray (some lo) (some hi) = (cutL l lo hi).toArray := by
    rw [KBc.picked_eq]
    obtain ⟨a, rfl⟩ := Int.eq_ofNat_of_zero_le h0
    obtain ⟨b, rfl⟩ := Int.eq_ofNat_of_zero_le (show 0 ≤ hi by omega)
    simp only [Option.elim, clipAt_nat, List.size_toArray]
    have e1 : min a l.length = a := by omega
    have e2 : min b l.length = b := by omega
    rw [e1, e2]
    rfl
  rw [e]
  exact h h' t' n F N
end
end
theorem told {D : Type} {prog : Program} {w : World} {K : Frag} {p : Program} {loose : List Str} {mean : ExcName → Option Value} {mg mb : Str → Option Value} {f : Addr} {c : ToldN D} {d : D} {dp un : Nat} {gd : Option (List Code)} {cn : Str} {cs : Scope} {a : Addr} {ccd : Value} {cl : List (Str × Addr)} {outer : List Env} {A₀ : Around} {base h₀ : Heap} {L : Addr}
    {m : Str → Option Value} {news : List (Addr × Obj)} {s : Shared} {vs : List Value} {Q E : Value → Shared → Prop} (R : c.Rel news vs d) (C : TellsN prog w K p loose mean mg mb f c d)
    (k : Below A₀ base outer h₀ ∧ Fr h₀ L s.heap m ∧ K.In h₀ ∧ News h₀ L s.heap news ∧ Top p loose mean mg mb h₀ ∧ cs.kind = .function) (o : c.Ok d ∧ dp + c.size d < recursionLimit ∧ un + 8 * c.size d < cLine)
    (ret : ∀ r tl h' tk', Fr h₀ L h' m → News h₀ L h' (news ++ tl) → (∀ q ∈ news, ∀ p ∈ tl, q.1 < p.1) → c.Tl tl → c.Out (news ++ tl) r d → Q r { s with heap := h', toks := tk' }) :
    wpAny (model prog w) (ktrTop dp un gd cn cs L a ccd cl outer) (call (.ref f) vs) Q E s := tellsN_use k.1 k.2.1 k.2.2.1 k.2.2.2.1 k.2.2.2.2.1 k.2.2.2.2.2 R C o.1 o.2.1 o.2.2 ret
/-- a goal at which the walk is to stand still -/
def Stop (P : Prop) : Prop := P
theorem Stop.out {P : Prop} (h : Stop P) : P := h
theorem Stop.into {P : Prop} (h : P) : Stop P := h
/-- names the address of the ledger's first entry -/
theorem name_head {P : Prop} {g h : Heap} {L a : Addr} {o : Obj} {news : List (Addr × Obj)} (_ : News g L h ((a, o) :: news)) (k : ∀ r, r = a → P) : P := k a rfl
local macro_rules | `(tactic| walk_at "m:and") => `(tactic| ((iterate 15 (try first | with_reducible assumption | apply And.right)); done))
local macro_rules | `(tactic| walk_at "m:arm") => `(tactic| first | walk_at "m:and" | (apply And.left; walk_at "m:and"))
local macro_rules | `(tactic| k_ne) => `(tactic| (refine neN ?_; (try dsimp only); first | walk_at "m:arm" | (apply Ne.symm; walk_at "m:arm") | (apply Nat.ne_of_lt; walk_at "m:arm") | (apply Nat.ne_of_gt; walk_at "m:arm")))
local macro_rules | `(tactic| walk_at "m:b") => `(tactic| first | exact Nat.le_trans (by with_reducible assumption) (by decide) | omega | ((try simp only [List.length_append, List.length_cons, List.length_nil] at *); omega))
local macro_rules | `(tactic| walk_at "getMethod bytes") => `(tactic| (k_here; (with_reducible refine getm_find ?_)))
local macro_rules | `(tactic| walk_at "getMethod bytes") => `(tactic| (k_here; (with_reducible refine getm_strip ?_)))
local macro_rules | `(tactic| walk_at "getMethod bytes") => `(tactic| (k_here; (with_reducible refine getm_join ?_)))
local macro_rules | `(tactic| walk_at "call builtin:bytes.find") => `(tactic| (k_here; (refine find_L (by walk_at "m:b") (by walk_at "m:b") (by walk_at "m:b") ?_); intro _ _ _))
local macro_rules | `(tactic| walk_at "binaryOp Add bytes bytes") => `(tactic| (k_here; (refine add_L (by walk_at "m:b") ?_); intro _ _))
local macro_rules | `(tactic| walk_at "call builtin:len") => `(tactic| (k_here; (refine len_L (by walk_at "m:b") ?_); intro _ _))
local macro_rules | `(tactic| walk_at "subscriptTail") => `(tactic| (k_here; (with_reducible show wpAny _ _ (subscriptTail _ _ (Value.bytes (List.toArray _) _) (Value.int _ _)) _ _ _); (refine item_L (by walk_at "m:b") (by walk_at "m:b") (by walk_at "m:b") ?_); intro _ _))
local macro_rules | `(tactic| walk_at "subscriptTail") => `(tactic| (k_here; (with_reducible show wpAny _ _ (subscriptTail _ (Expr.Slice _ _ none _) (Value.bytes (List.toArray _) _) (Value.ref _)) _ _ _); (with_reducible rename Fr _ _ _ _ => F'); (with_reducible rename News _ _ _ _ => N'); (refine slice_L (s := ⟨_, _, _, _, _⟩) F' N' rfl rfl (by walk_at "m:b") (by walk_at "m:b") (by walk_at "m:b") (by walk_at "m:b") ?_); intro _ _ _ F' N'))
local macro_rules | `(tactic| walk_at "m:ok") => `(tactic| ((try dsimp only); omega))
local macro_rules | `(tactic| walk_at "m:five") => `(tactic| (and_intros <;> first | with_reducible assumption | exact rfl | k_asm))
local macro_rules | `(tactic| walk_at "m:sides") => `(tactic| exact ⟨by walk_at "m:ok", by ((try dsimp only); ktr_room), by ((try dsimp only); ktr_units)⟩)
local macro_rules | `(tactic| k_room) => `(tactic| ktr_room)
local macro_rules | `(tactic| k_units) => `(tactic| ktr_units)
open_top hd for PySem.Challenge.rw_or0023_01
theorem fill : (PySem.Challenge.rw_or0023_01 = PySem.Challenge.rw_or0023_01) ∧ (hd.heap_39 = hd.heap_39) := by
  k_fill
  exact ⟨rfl, rfl⟩
theorem off_3 : True := by
  w_top off
  trivial
/-- a tuple as it lies -/
abbrev tupOf (vs : List Value) (n : Nat) : Obj := { cls := .type "tuple", data := .seq vs.toArray n }
structure LAd where
  l : List UInt8
  lo : Int
  hi : Int
/-- what line_at gives -/
def lineAt (l : List UInt8) (lo hi : Int) : Int × Int :=
  if fndL l 10 lo hi < 0 then (hi, hi)
  else if fndL l 10 lo hi > lo ∧ (l.getD (fndL l 10 lo hi - 1).toNat 0).toNat = 13 then (fndL l 10 lo hi - 1, fndL l 10 lo hi + 1)
  else (fndL l 10 lo hi, fndL l 10 lo hi + 1)
theorem lineAt_bd (l : List UInt8) {lo hi : Int} (h0 : 0 ≤ lo) (h1 : lo ≤ hi) : lo ≤ (lineAt l lo hi).1 ∧ (lineAt l lo hi).1 ≤ (lineAt l lo hi).2 ∧ (lineAt l lo hi).2 ≤ hi ∧ (lo < hi → lo < (lineAt l lo hi).2) ∧ (lineAt l lo hi).1 ≤ hi := by
  have hb := fndL_bd l 10 lo hi h0
  unfold lineAt
  split
  · simp; omega
  · split
    · simp only; omega
    · simp only; omega
theorem tup2_out {nx : List (Addr × Obj)} {a : Addr} {x y x' y' : Int} {t1 t2 : Tok} {n : Nat} (hm : (a, tupOf [.int x' t1, .int y' t2] n) ∈ nx) (hx : x' = x) (hy : y' = y) :
    ∃ a' t1' t2' n', Value.ref a = .ref a' ∧ (a', tupOf [.int x t1', .int y t2'] n') ∈ nx := by
  subst hx hy
  exact ⟨_, _, _, _, rfl, hm⟩
abbrev lineAtT : ToldN LAd where
  Rel := fun _ vs d => ∃ t t1 t2, vs = [.bytes d.l.toArray t, .int d.lo t1, .int d.hi t2]
  Ok := fun d => 0 ≤ d.lo ∧ d.lo ≤ d.hi ∧ d.hi ≤ d.l.length ∧ d.l.length ≤ 100000
  size := fun _ => 1
  Tl := fun _ => True
  Out := fun nx v d => (d.lo ≤ (lineAt d.l d.lo d.hi).1 ∧ (lineAt d.l d.lo d.hi).1 ≤ (lineAt d.l d.lo d.hi).2 ∧ (lineAt d.l d.lo d.hi).2 ≤ d.hi ∧ (d.lo < d.hi → d.lo < (lineAt d.l d.lo d.hi).2) ∧ (lineAt d.l d.lo d.hi).1 ≤ d.hi) ∧ ∃ a t1 t2 n, v = .ref a ∧ (a, tupOf [.int (lineAt d.l d.lo d.hi).1 t1, .int (lineAt d.l d.lo d.hi).2 t2] n) ∈ nx
theorem lineAt_rel {news : List (Addr × Obj)} {l : List UInt8} {lo hi : Int} {t t1 t2 : Tok} : lineAtT.Rel news [.bytes l.toArray t, .int lo t1, .int hi t2] ⟨l, lo, hi⟩ := ⟨t, t1, t2, rfl⟩
theorem lineAt_ok {prog : Program} {w : World} {mean mg mb} (d : LAd) : TellsN prog w (hd.heap_39 w.params) hd.view_39 (looseW hd.view_39 [Str.ofString "read_spans"]) mean mg mb 64 lineAtT d := by
  unfold TellsN
  intro dp un gd cn cs a ccd cl outer A₀ base h₀ L m news s vs Q E B F X N T hk hR hok hd hu hret
  obtain ⟨t, t1, t2, rfl⟩ := hR
  obtain ⟨l, lo, hi⟩ := d
  dsimp only at hok hd hu
  refine wpAny_call ?_
  k_dflt ktr_enter
  k_steps
  all_goals
    refine hret _ _ _ _ (by k_asm) (ktn_tl1 (by k_asm)) (ktn_ord1 (by ktn_lt)) trivial ⟨lineAt_bd l (lo := lo) (hi := hi) hok.1 hok.2.1, tup2_out (List.mem_append.mpr (.inr (List.mem_singleton.mpr rfl))) ?_ ?_⟩
  all_goals dsimp only at *
  all_goals unfold lineAt
  · rw [if_pos (by assumption)]
  · rw [if_pos (by assumption)]
  · rw [if_neg (by assumption), if_pos ⟨by assumption, by omega⟩]
  · rw [if_neg (by assumption), if_pos ⟨by assumption, by omega⟩]
  · rw [if_neg (by assumption), if_neg (by rintro ⟨_, _⟩; omega)]
  · rw [if_neg (by assumption), if_neg (by rintro ⟨_, _⟩; omega)]
  · rw [if_neg (by assumption), if_neg (by rintro ⟨_, _⟩; omega)]
  · rw [if_neg (by assumption), if_neg (by rintro ⟨_, _⟩; omega)]
local macro_rules | `(tactic| walk_at "call ref") => `(tactic| (k_here; k_dflt (refine' told lineAt_rel (lineAt_ok _) (by walk_at "m:five") (by walk_at "m:sides") ?_); intro _ _ _ _ _ N9 _ _ ho9; (dsimp only at ho9); (obtain ⟨_, _, _, _, _, e9, hm9⟩ := ho9); subst e9; (simp only [List.cons_append, List.append_assoc, List.nil_append] at N9 hm9); (try k_sweep)))
theorem off_4 : True := by
  w_top off
  trivial
def goodOct (c : UInt8) : Bool := !(decide (c.toNat < 33) || decide (126 < c.toNat) || decide (c.toNat = 58))
def isName (l : List UInt8) : Bool := l.all goodOct && decide (0 < l.length)
theorem isName_bad {d : List UInt8} {i : Nat} {c : UInt8} (hc : d[i]? = some c) (h : goodOct c = false) : isName d = false := by
  unfold isName
  have e : d.all goodOct = false := by
    rw [List.all_eq_false]
    exact ⟨c, List.mem_of_getElem? hc, by rw [h]; decide⟩
  rw [e]; rfl
theorem take_ok {d : List UInt8} {i : Nat} {c : UInt8} {P : UInt8 → Prop} (hc : d[i]? = some c) (h : ∀ x ∈ d.take i, P x) (hp : P c) : ∀ x ∈ d.take (i + 1), P x := by
  intro x hx
  rw [List.take_add_one, hc] at hx
  rcases List.mem_append.mp hx with hx | hx
  · exact h x hx
  · simp at hx; subst hx; exact hp
abbrev isNameT : ToldN (List UInt8) where
  Rel := fun _ vs d => ∃ t, vs = [.bytes d.toArray t]
  Ok := fun d => d.length ≤ 100000
  size := fun _ => 1
  Tl := fun tl => tl = []
  Out := fun _ v d => v = .bool (isName d)
section
variable {prog : Program} {w : World} {A : Around} {E : Value → Shared → Prop} {s : Shared} {env : Env} {h₀ : Heap} {x : Str} {body : List Stmt} {Q : Flow → Shared → Prop} {d : List UInt8} {tb : Tok}
  {m₀ : Str → Option Value} {news : List (Addr × Obj)}
theorem iterBytes_inv {P : Nat → Prop} (hh : A.handled = none) (F : Fr h₀ env.locals s.heap m₀) (N : News h₀ env.locals s.heap news) (hj : P 0)
    (turn : ∀ i (c : UInt8) t h tk own, d[i]? = some c → P i → OwnOff own (news.map (·.1)) → Fr h₀ env.locals h (fun z => if z = x then some (.int (c.toNat : Int) t) else m₀ z) → News h₀ env.locals h (news ++ own) →
      wpAny (model prog w) A (execs body env) (InvPostN h₀ env.locals (fun m' nx => nx = news ∧ (∀ z, z ≠ x → m' z = m₀ z) ∧ P (i + 1)) own (news.map (·.1)) { s with heap := h, toks := tk } Q) E { s with heap := h, toks := tk })
    (done : ∀ (u : Str → Option Value) h tk, P d.length → Fr h₀ env.locals h (fun z => if z = x then u z else m₀ z) → News h₀ env.locals h news → Q .next { s with heap := h, toks := tk }) :
    wpAny (model prog w) A (pyIter (.bytes d.toArray tb)) (fun it s₂ => LoopAtV prog w A h₀ env x body Q E it s₂) E s := by
  refine KBmo.iter_bytesN (fun i m nx => nx = news ∧ (∀ z, z ≠ x → m z = m₀ z) ∧ P i) rfl hh F N ⟨rfl, fun _ _ => rfl, hj⟩ ?_ ?_
  · rintro i k t m₁ nx h tk own hk _ _ hoff ⟨rfl, hm, hp⟩ F₁ N₁
    rw [map_none hm] at F₁
    rw [KBw.ints_list, List.getElem?_map] at hk
    cases hc : d[i]? with
    | none => rw [hc] at hk; cases hk
    | some c =>
      rw [hc] at hk
      obtain rfl := Option.some.inj hk
      exact turn i c t h tk own hc hp hoff F₁ N₁
  · rintro m₁ nx h tk ⟨rfl, hm, hp⟩ F₁ N₁
    rw [KBw.ints_length, List.size_toArray] at hp
    refine done m₁ h tk hp ?_ N₁
    rw [done_none hm]; exact F₁
end
theorem isName_rel {news : List (Addr × Obj)} {l : List UInt8} {t : Tok} : isNameT.Rel news [.bytes l.toArray t] l := ⟨t, rfl⟩
local macro_rules | `(tactic| walk_at "pyIter bytes") => `(tactic| (refine Stop.out ?_))
theorem isName_ok {prog : Program} {w : World} {mean mg mb} (d : List UInt8) : TellsN prog w (hd.heap_39 w.params) hd.view_39 (looseW hd.view_39 [Str.ofString "read_spans"]) mean mg mb 71 isNameT d := by
  unfold TellsN
  intro dp un gd cn cs a ccd cl outer A₀ base h₀ L m news s vs Q E B F X N T hk hR hok hd hu hret
  obtain ⟨t, rfl⟩ := hR
  dsimp only at hok hd hu
  refine wpAny_call ?_
  k_dflt ktr_enter
  k_steps
  refine Stop.into ?_
  rename Fr _ _ _ _ => lF'
  rename News _ _ _ _ => lN'
  refine iterBytes_inv (P := fun i => ∀ c ∈ d.take i, goodOct c = true) rfl lF' lN' (fun c hc => by simp at hc) ?_ ?_
  · intro i c tc h1 tk1 own hc hP hoff F' N'
    clear lF' lN'
    try k_fold
    k_steps
    all_goals first
      | (refine hret _ [] _ _ (by k_asm) (ktn_tl0 (cb_drop (by k_asm) fun p h => List.mem_append_left _ h)) ktn_ord0 rfl ?_; exact congrArg Value.bool (isName_bad (by assumption) (by unfold goodOct; simp; omega)).symm)
      | (refine InvEndN.intro (by assumption) (by assumption) ⟨rfl, fun z h => if_neg h, ?_⟩ rfl (fun p h => List.mem_append_left _ h) (fun p h => List.mem_append_right _ h); refine take_ok (by assumption) hP (by unfold goodOct; simp; omega))
  · intro u h1 tk1 hP F' N'
    clear lF' lN'
    try k_fold
    k_steps
    refine hret _ [] _ _ (by k_asm) (ktn_tl0 (by k_asm)) ktn_ord0 rfl ?_
    rw [List.take_length] at hP
    refine congrArg Value.bool ?_
    unfold isName
    rw [List.all_eq_true.mpr hP, Bool.true_and]
    simp
local macro_rules | `(tactic| walk_at "call ref") => `(tactic| (k_here; k_dflt (refine' told isName_rel (isName_ok _) (by walk_at "m:five") (by walk_at "m:sides") ?_); intro _ _ _ _ _ N9 _ ht9 ho9; subst ht9 ho9; (rw [List.append_nil] at N9); (try k_sweep)))
local macro_rules | `(tactic| walk_at "m:ok") => `(tactic| ((try dsimp only); exact Nat.le_trans cutL_len_le (by omega)))
theorem off_5 : True := by
  w_top off
  trivial
def colonIn (l : List UInt8) (lo hi : Int) : Int :=
  if 0 ≤ fndL l 58 lo hi ∧ isName (cutL l lo (fndL l 58 lo hi)) = true then fndL l 58 lo hi else -1
theorem colonIn_bd (l : List UInt8) {lo hi : Int} (h0 : 0 ≤ lo) : -1 ≤ colonIn l lo hi ∧ (0 ≤ colonIn l lo hi → lo ≤ colonIn l lo hi ∧ colonIn l lo hi < hi) := by
  have hb := fndL_bd l 58 lo hi h0
  unfold colonIn
  split <;> omega
abbrev colonInT : ToldN LAd where
  Rel := fun _ vs d => ∃ t t1 t2, vs = [.bytes d.l.toArray t, .int d.lo t1, .int d.hi t2]
  Ok := fun d => 0 ≤ d.lo ∧ d.lo ≤ d.hi ∧ d.hi ≤ d.l.length ∧ d.l.length ≤ 100000
  size := fun _ => 2
  Tl := fun tl => tl = []
  Out := fun _ v d => (-1 ≤ colonIn d.l d.lo d.hi ∧ (0 ≤ colonIn d.l d.lo d.hi → d.lo ≤ colonIn d.l d.lo d.hi ∧ colonIn d.l d.lo d.hi < d.hi)) ∧ ∃ t, v = .int (colonIn d.l d.lo d.hi) t
theorem colonIn_rel {news : List (Addr × Obj)} {l : List UInt8} {lo hi : Int} {t t1 t2 : Tok} : colonInT.Rel news [.bytes l.toArray t, .int lo t1, .int hi t2] ⟨l, lo, hi⟩ := ⟨t, t1, t2, rfl⟩
theorem colonIn_ok {prog : Program} {w : World} {mean mg mb} (d : LAd) : TellsN prog w (hd.heap_39 w.params) hd.view_39 (looseW hd.view_39 [Str.ofString "read_spans"]) mean mg mb 78 colonInT d := by
  unfold TellsN
  intro dp un gd cn cs a ccd cl outer A₀ base h₀ L m news s vs Q E B F X N T hk hR hok hd hu hret
  obtain ⟨t, t1, t2, rfl⟩ := hR
  obtain ⟨l, lo, hi⟩ := d
  dsimp only at hok hd hu
  refine wpAny_call ?_
  k_dflt ktr_enter
  k_steps
  all_goals refine hret _ [] _ _ (by k_asm) (ktn_tl0 (by k_asm)) ktn_ord0 rfl ⟨colonIn_bd l (lo := lo) (hi := hi) hok.1, ktn_int ?_⟩
  all_goals dsimp only
  all_goals unfold colonIn
  · rw [if_pos ⟨by assumption, by assumption⟩]
  · rw [if_neg (by rintro ⟨_, h⟩; simp_all)]
  · rw [if_neg (by rintro ⟨h, _⟩; omega)]
local macro_rules | `(tactic| walk_at "call ref") => `(tactic| (k_here; k_dflt (refine' told colonIn_rel (colonIn_ok _) (by walk_at "m:five") (by walk_at "m:sides") ?_); intro _ _ _ _ _ N9 _ ht9 ho9; (dsimp only at ho9); subst ht9; (obtain ⟨_, _, e9⟩ := ho9); subst e9; (rw [List.append_nil] at N9); (try k_sweep)))
theorem off_6 : True := by
  w_top off
  trivial
theorem in_K2 {prog : Program} {w : World} {A : Around} {E : Value → Shared → Prop} {s : Shared} {K : Frag} {l : Addr} {x a b : Int} {t ta tb : Tok} {dd : Option Addr} {n : Nat} {sl : Array (Option Value)} {Q : Value → Shared → Prop}
    (X : K.In s.heap) (hk : K.lookup l = some ⟨.type "tuple", dd, .seq #[.int a ta, .int b tb] n, sl⟩) (h : Q (.bool (decide (x = a ∨ x = b))) s) :
    wpAny (model prog w) A (compareOp .In (.int x t) (.ref l)) Q E s := by
  refine SeqAt.in_tupleAt (items := #[.int a ta, .int b tb]) (fun y => match y with | .int i _ => i == x | _ => false) ⟨_, X _ _ hk, rfl, n, rfl⟩ ?_ ?_
  · intro y hy
    simp only [List.mem_toArray, List.mem_cons, List.not_mem_nil, or_false] at hy
    rcases hy with rfl | rfl
    · exact SeqAt.EqAt.int_int _ _ _ _
    · exact SeqAt.EqAt.int_int _ _ _ _
  · have e : (#[Value.int a ta, Value.int b tb].any fun y => match y with | .int i _ => i == x | _ => false) = decide (x = a ∨ x = b) := by
      simp only [List.any_toArray, List.any_cons, List.any_nil, Bool.or_false]
      by_cases h1 : x = a
      · subst h1; simp
      · by_cases h2 : x = b
        · subst h2; simp
        · simp [h1, h2, Ne.symm h1, Ne.symm h2]
    rw [e]; exact h
/-- objects made later lie elsewhere -/
def Apart (news tl : List (Addr × Obj)) : Prop := ∀ q ∈ news, ∀ p ∈ tl, q.1 ≠ p.1
theorem Apart.of_lt {news tl : List (Addr × Obj)} (h : ∀ q ∈ news, ∀ p ∈ tl, q.1 < p.1) : Apart news tl := fun q hq p hp => Nat.ne_of_lt (h q hq p hp)
theorem Apart.ne {news tl : List (Addr × Obj)} {a : Addr} {o : Obj} (h : Apart news tl) (hm : (a, o) ∈ news) : ∀ p ∈ tl, p.1 ≠ a := fun p hp => Ne.symm (h _ hm p hp)
/-- a contract as TellsN is, what is given back lies among what was made -/
def TellsT {D : Type} (prog : Program) (w : World) (K : Frag) (p : Program) (loose : List Str) (mean : ExcName → Option Value) (mg mb : Str → Option Value) (f : Addr) (c : ToldN D) (d : D) : Prop :=
  ∀ (dp un : Nat) (gd : Option (List Code)) (cn : Str) (cs : Scope) (a : Addr) (ccd : Value) (cl : List (Str × Addr)) (outer : List Env) (A₀ : Around) (base h₀ : Heap) (L : Addr) (m : Str → Option Value) (news : List (Addr × Obj)) (s : Shared) (vs : List Value)
    (Q E : Value → Shared → Prop),
    Below A₀ base outer h₀ → Fr h₀ L s.heap m → K.In h₀ → News h₀ L s.heap news → Top p loose mean mg mb h₀ → cs.kind = .function → c.Rel news vs d → c.Ok d → dp + c.size d < recursionLimit → un + 8 * c.size d < cLine →
    (∀ r tl h' tk', Fr h₀ L h' m → News h₀ L h' (news ++ tl) → Apart news tl → c.Out tl r d → Q r { s with heap := h', toks := tk' }) →
    wpAny (model prog w) (ktrTop dp un gd cn cs L a ccd cl outer) (call (.ref f) vs) Q E s
section
variable {D : Type} {prog : Program} {w : World} {K : Frag} {p : Program} {loose : List Str} {mean : ExcName → Option Value} {mg mb : Str → Option Value} {f : Addr} {c : ToldN D}
theorem tellsT_use {d : D} {dp un : Nat} {gd : Option (List Code)} {cn : Str} {cs : Scope} {a : Addr} {ccd : Value} {cl : List (Str × Addr)} {outer : List Env} {A₀ : Around} {base h₀ : Heap} {L : Addr} {m : Str → Option Value} {news : List (Addr × Obj)} {s : Shared} {vs : List Value}
    {Q E : Value → Shared → Prop} (B : Below A₀ base outer h₀) (F : Fr h₀ L s.heap m) (X : K.In h₀) (N : News h₀ L s.heap news) (T : Top p loose mean mg mb h₀) (hk : cs.kind = .function) (R : c.Rel news vs d) (C : TellsT prog w K p loose mean mg mb f c d) (ok : c.Ok d)
    (hd : dp + c.size d < recursionLimit) (hu : un + 8 * c.size d < cLine)
    (ret : ∀ r tl h' tk', Fr h₀ L h' m → News h₀ L h' (news ++ tl) → Apart news tl → c.Out tl r d → Q r { s with heap := h', toks := tk' }) :
    wpAny (model prog w) (ktrTop dp un gd cn cs L a ccd cl outer) (call (.ref f) vs) Q E s := C _ _ _ _ _ _ _ _ _ _ _ _ _ _ _ _ _ _ _ B F X N T hk R ok hd hu ret
end
structure RSd where
  l : List UInt8
  lo : Int
  hi : Int
structure RowD where
  name : List UInt8
  raw : List UInt8
  b : Int
  e : Int
def isWhite (c : UInt8) : Prop := c.toNat = 32 ∨ c.toNat = 9
inductive White (l : List UInt8) (stop : Int) : Int → Int → Int × Int → Prop
  | stop {last later : Int} : ¬ (later < stop ∧ isWhite (l.getD later.toNat 0)) → White l stop last later (last, later)
  | more {last later : Int} {q : Int × Int} : later < stop → isWhite (l.getD later.toNat 0) → White l stop (lineAt l later stop).1 (lineAt l later stop).2 q → White l stop last later q
inductive Reads (l : List UInt8) (stop : Int) : Int → List RowD → List RowD × Int → Prop
  | done {here : Int} {rows : List RowD} : ¬ here < stop → Reads l stop here rows (rows, stop)
  | blank {here : Int} {rows : List RowD} : here < stop → (lineAt l here stop).1 = here → Reads l stop here rows (rows, (lineAt l here stop).2)
  | nofield {here : Int} {rows : List RowD} : here < stop → (lineAt l here stop).1 ≠ here → colonIn l here (lineAt l here stop).1 < 0 → Reads l stop here rows (rows, here)
  | field {here : Int} {rows : List RowD} {q : Int × Int} {res : List RowD × Int} : here < stop → (lineAt l here stop).1 ≠ here → ¬ colonIn l here (lineAt l here stop).1 < 0 →
      White l stop (lineAt l here stop).1 (lineAt l here stop).2 q →
      Reads l stop q.2 (rows ++ [⟨cutL l here (colonIn l here (lineAt l here stop).1), cutL l (colonIn l here (lineAt l here stop).1 + 1) q.1, here, q.2⟩]) res → Reads l stop here rows res
/-- a Field's dict -/
abbrev rowDict (w : World) (x y : Value) (k1 k2 : Tok) : Obj :=
  dictOf [⟨PyData.keyHash w.params (Str.ofString "name"), .str (Str.ofString "name") k1, x⟩, ⟨PyData.keyHash w.params (Str.ofString "raw"), .str (Str.ofString "raw") k2, y⟩] 2
/-- a made row: a tuple of a Field and two ints -/
def RowIn (w : World) (nx : List (Addr × Obj)) (v : Value) (d : RowD) : Prop :=
  ∃ t f dx n k1 k2 u1 u2 tb te, v = .ref t ∧ (t, tupOf [.ref f, .int d.b tb, .int d.e te] n) ∈ nx ∧ (f, instObj 53 dx) ∈ nx ∧ (dx, rowDict w (.bytes d.name.toArray u1) (.bytes d.raw.toArray u2) k1 k2) ∈ nx
theorem RowIn.mono {w : World} {nx ny : List (Addr × Obj)} {v : Value} {d : RowD} (h : RowIn w nx v d) (s : ∀ p ∈ nx, p ∈ ny) : RowIn w ny v d := by
  obtain ⟨t, f, dx, n, k1, k2, u1, u2, tb, te, e, h1, h2, h3⟩ := h
  exact ⟨t, f, dx, n, k1, k2, u1, u2, tb, te, e, s _ h1, s _ h2, s _ h3⟩
inductive All2 {α : Type} (R : Value → α → Prop) : List Value → List α → Prop
  | nil : All2 R [] []
  | cons {v : Value} {vs : List Value} {d : α} {ds : List α} : R v d → All2 R vs ds → All2 R (v :: vs) (d :: ds)
theorem All2.mono {α : Type} {R S : Value → α → Prop} (f : ∀ v d, R v d → S v d) : ∀ {vs : List Value} {ds : List α}, All2 R vs ds → All2 S vs ds
  | _, _, .nil => .nil
  | _, _, .cons h r => .cons (f _ _ h) (All2.mono f r)
theorem All2.snoc {α : Type} {R : Value → α → Prop} {v : Value} {d : α} (h : R v d) : ∀ {vs : List Value} {ds : List α}, All2 R vs ds → All2 R (vs ++ [v]) (ds ++ [d])
  | _, _, .nil => .cons h .nil
  | _, _, .cons h' r => .cons h' (All2.snoc h r)
theorem All2.length {α : Type} {R : Value → α → Prop} : ∀ {vs : List Value} {ds : List α}, All2 R vs ds → vs.length = ds.length
  | _, _, .nil => rfl
  | _, _, .cons _ r => by rw [List.length_cons, List.length_cons, All2.length r]
abbrev readT (w : World) : ToldN RSd where
  Rel := fun _ vs d => (∃ t t1 t2, vs = [.bytes d.l.toArray t, .int d.lo t1, .int d.hi t2]) ∨ (∃ t, vs = [.bytes d.l.toArray t] ∧ d.lo = 0 ∧ d.hi = d.l.length)
  Ok := fun d => 0 ≤ d.lo ∧ d.lo ≤ d.hi ∧ d.hi ≤ d.l.length ∧ d.l.length ≤ 100000
  size := fun _ => 3
  Tl := fun tl => True
  Out := fun nx v d => ∃ res rv vs k tp n tt, Reads d.l d.hi d.lo [] res ∧ v = .ref tp ∧ (tp, tupOf [.ref rv, .int res.2 tt] n) ∈ nx ∧ (rv, W.listOf vs.toArray k) ∈ nx ∧ All2 (RowIn w nx) vs res.1
structure LoopC where
  here : Int
  th : Tok
  vs : List Value
  k : Nat
  tl : List (Addr × Obj)
  rows : List RowD
structure LoopD where
  last : Int
  later : Int
  t1 : Tok
  t2 : Tok
  tl : List (Addr × Obj)
theorem news_perm2 {h₀ h : Heap} {L : Addr} {p q : Addr × Obj} {news tl : List (Addr × Obj)} (N : News h₀ L h (p :: q :: (news ++ tl))) : News h₀ L h (news ++ (p :: q :: tl)) := fun x hx => N x (by
  rcases List.mem_append.mp hx with h | h
  · exact .tail _ (.tail _ (List.mem_append_left _ h))
  · rcases List.mem_cons.mp h with rfl | h
    · exact .head _
    · rcases List.mem_cons.mp h with rfl | h
      · exact .tail _ (.head _)
      · exact .tail _ (.tail _ (List.mem_append_right _ h)))
theorem ret_end {w : World} {d : RSd} {h₀ : Heap} {L : Addr} {m : Str → Option Value} {news : List (Addr × Obj)} {s : Shared} {Q : Value → Shared → Prop}
    (hret : ∀ r tl h' tk', Fr h₀ L h' m → News h₀ L h' (news ++ tl) → Apart news tl → (readT w).Out tl r d → Q r { s with heap := h', toks := tk' })
    {heap : Heap} {tk : Nat} {D r : Addr} {n k : Nat} {tt : Tok} {vs : List Value} {tl' : List (Addr × Obj)} {rows : List RowD} {pl : Int}
    (kF : Fr h₀ L heap m) (kN : News h₀ L heap ((D, tupOf [.ref r, .int pl tt] n) :: (r, W.listOf vs.toArray k) :: (news ++ tl'))) (h1 : ∀ p ∈ news, p.1 < r) (h2 : r < D) (h3 : ∀ p ∈ tl', r < p.1)
    (hR : Reads d.l d.hi d.lo [] (rows, pl)) (hA : All2 (RowIn w tl') vs rows) : Q (.ref D) { s with heap := heap, toks := tk } := by
  refine hret _ _ _ _ kF (news_perm2 kN) (Apart.of_lt ?_) ⟨(rows, pl), r, vs, k, D, n, tt, hR, rfl, .head _, .tail _ (.head _), hA.mono fun _ _ h => h.mono fun _ hp => .tail _ (.tail _ hp)⟩
  intro q hq p hp
  have h9 := h1 q hq
  rcases List.mem_cons.mp hp with rfl | hp
  · exact Nat.lt_trans h9 h2
  · rcases List.mem_cons.mp hp with rfl | hp
    · exact h9
    · exact Nat.lt_trans h9 (h3 p hp)
theorem outer_end {w : World} {g h' : Heap} {L' r D x d : Addr} {s₁ : Shared} {m₀ m' : Str → Option Value} {news tlc : List (Addr × Obj)} {n tk : Nat} {c : LoopC} {lo hi here later : Int} {th x2 u1 u2 k1 k2 : Tok} {l nm rw : List UInt8} {stored : List Str}
    (F' : Fr g L' h' m')
    (N' : News g L' h' ((D, tupOf [.ref x, .int here th, .int later x2] n) :: (x, instObj 53 d) :: (d, rowDict w (.bytes nm.toArray u1) (.bytes rw.toArray u2) k1 k2) :: (r, W.listOf (c.vs.toArray.push (.ref D)) (c.k + 1)) :: (news ++ tlc)))
    (hD : r < D) (hx : r < x) (hd : r < d) (c1 : ∀ p ∈ c.tl, p ∈ tlc) (c2 : ∀ p ∈ tlc, r < p.1) (hrows : All2 (RowIn w c.tl) c.vs c.rows)
    (hk : m' (Str.ofString "here") = some (.int later x2)) (hr : ∀ z, (∀ p ∈ [(Str.ofString "here", Value.int later x2)], z ≠ p.1) → stored.contains z = false → m' z = m₀ z)
    (b1 : 0 ≤ later) (b2 : later ≤ hi) (b3 : (c.vs.length : Int) + 1 ≤ later) (b4 : ∀ res, Reads l hi later (c.rows ++ [⟨nm, rw, here, later⟩]) res → Reads l hi lo [] res) (hm : (hi - later).toNat < (hi - c.here).toNat) :
    KswEnd g L' s₁ (fun c => (r, W.listOf c.vs.toArray c.k) :: (news ++ c.tl)) (fun c => [(Str.ofString "here", .int c.here c.th)]) (fun c => All2 (RowIn w c.tl) c.vs c.rows ∧ (∀ p ∈ c.tl, r < p.1)) stored m₀
      (fun c => 0 ≤ c.here ∧ c.here ≤ hi ∧ (c.vs.length : Int) ≤ c.here ∧ (∀ res, Reads l hi c.here c.rows res → Reads l hi lo [] res)) (fun c => (hi - c.here).toNat) c { s₁ with heap := h', toks := tk } := by
  refine ksw_end (⟨later, x2, c.vs ++ [.ref D], c.k + 1, (D, tupOf [.ref x, .int here th, .int later x2] n) :: (x, instObj 53 d) :: (d, rowDict w (.bytes nm.toArray u1) (.bytes rw.toArray u2) k1 k2) :: tlc, c.rows ++ [⟨nm, rw, here, later⟩]⟩ : LoopC)
    F' N' ?_ ⟨?_, ?_⟩ (List.forall_mem_cons.mpr ⟨hk, List.forall_mem_nil _⟩) hr ⟨b1, b2, ?_, b4⟩ hm
  · have e : (c.vs ++ [Value.ref D]).toArray = c.vs.toArray.push (.ref D) := by simp
    dsimp only
    rw [e]
    intro p hp
    simp only [List.mem_cons, List.mem_append] at hp ⊢
    rcases hp with h | h | h | h | h | h <;> simp [h]
  · refine All2.snoc ⟨D, x, d, n, k1, k2, u1, u2, th, x2, rfl, .head _, .tail _ (.head _), .tail _ (.tail _ (.head _))⟩ (hrows.mono fun _ _ h => h.mono fun p hp => .tail _ (.tail _ (.tail _ (c1 p hp))))
  · intro p hp
    rcases List.mem_cons.mp hp with rfl | hp
    · exact hD
    · rcases List.mem_cons.mp hp with rfl | hp
      · exact hx
      · rcases List.mem_cons.mp hp with rfl | hp
        · exact hd
        · exact c2 p hp
  · simp only [List.length_append, List.length_cons, List.length_nil]; omega
theorem htl_app {r : Addr} {o : Obj} {news tl tl9 : List (Addr × Obj)} (h : ∀ p ∈ tl, r < p.1) (h9 : ∀ q ∈ (r, o) :: (news ++ tl), ∀ p ∈ tl9, q.1 < p.1) : ∀ p ∈ tl ++ tl9, r < p.1 := by
  intro p hp
  rcases List.mem_append.mp hp with hp | hp
  · exact h p hp
  · exact h9 _ (List.mem_cons_self ..) p hp
theorem read_rel3 {w : World} {news : List (Addr × Obj)} {l : List UInt8} {lo hi : Int} {t t1 t2 : Tok} : (readT w).Rel news [.bytes l.toArray t, .int lo t1, .int hi t2] ⟨l, lo, hi⟩ := .inl ⟨t, t1, t2, rfl⟩
theorem read_rel1 {w : World} {news : List (Addr × Obj)} {l : List UInt8} {t : Tok} : (readT w).Rel news [.bytes l.toArray t] ⟨l, 0, l.length⟩ := .inr ⟨t, rfl, rfl, rfl⟩
/-- a fact not known yet: two ways come to one place -/
structure Hold (P : Prop) : Prop where
  get : P
/-- names the two heaps -/
theorem name_heap {P : Prop} {h g : Heap} {L : Addr} {m : Str → Option Value} (_ : Fr h L g m) (k : ∀ g' L', g' = g → L' = L → P) : P := k g L rfl rfl
theorem gen_toks {prog : Program} {w : World} {A : Around} {st : Stmt} {env : Env} {Q : Flow → Shared → Prop} {E : Value → Shared → Prop} {h : Heap} {s : Shared} {n : Nat} (k : ∀ n, wpAny (model prog w) A (exec st env) Q E { s with heap := h, toks := n }) :
    wpAny (model prog w) A (exec st env) Q E { s with heap := h, toks := n } := k n
theorem share {S P : Prop} (main : Hold S → P) (key : S) : P := main ⟨key⟩
theorem fr_four {P : Prop} {g h : Heap} {L r : Addr} {t t1 t2 : Tok} {lo hi : Int} {l : List UInt8} {R : Str → Option Value}
    (F : Fr g L h (fun y => if y = Str.ofString "here" then some (.int lo t1) else if y = Str.ofString "rows" then some (.ref r) else if y = Str.ofString "stop" then some (.int hi t2) else R y)) (e : R (Str.ofString "data") = some (.bytes l.toArray t))
    (k : ∀ (R : Str → Option Value) (t t1 t2 : Tok), Fr g L h (fun y => if y = Str.ofString "data" then some (.bytes l.toArray t) else if y = Str.ofString "here" then some (.int lo t1) else if y = Str.ofString "rows" then some (.ref r) else if y = Str.ofString "stop" then some (.int hi t2) else R y) → P) : P := by
  refine k R t t1 t2 ?_
  have he : (fun y => if y = Str.ofString "data" then some (.bytes l.toArray t) else if y = Str.ofString "here" then some (.int lo t1) else if y = Str.ofString "rows" then some (.ref r) else if y = Str.ofString "stop" then some (.int hi t2) else R y)
      = (fun y => if y = Str.ofString "here" then some (.int lo t1) else if y = Str.ofString "rows" then some (.ref r) else if y = Str.ofString "stop" then some (.int hi t2) else R y) := by
    funext y
    by_cases hy : y = Str.ofString "data"
    · subst hy
      rw [if_pos rfl, if_neg (by decide), if_neg (by decide), if_neg (by decide), e]
    · rw [if_neg hy]
  rw [he]
  exact F
/-- a mark: the walk stands still at the test -/
def Inside : Prop := True
theorem join_test {prog : Program} {w : World} {A : Around} {c : Sem Bool} {Q : Bool → Shared → Prop} {E : Value → Shared → Prop} {s : Shared} (C : Prop) (h : ∀ Q' : Bool → Shared → Prop, (∀ k, C → Q' true { s with toks := k }) → (∀ k, ¬ C → Q' false { s with toks := k }) → wpAny (model prog w) A c Q' E s)
    (h1 : ∀ k, C → Q true { s with toks := k }) (h2 : ∀ k, ¬ C → Q false { s with toks := k }) : wpAny (model prog w) A c Q E s := h Q h1 h2
local macro_rules | `(tactic| walk_at "exec While Compare cons nil") => `(tactic| (refine Stop.out ?_))
local macro_rules | `(tactic| walk_at "exec While BoolOp cons nil") => `(tactic| (refine Stop.out ?_))
local macro_rules | `(tactic| walk_at "compareOp In int ref") => `(tactic| (refine Stop.out ?_))
local macro_rules | `(tactic| walk_at "isTrue BoolOp") => `(tactic| (rename Inside => h; refine Stop.out ?_))
theorem read_ok {prog : Program} {w : World} {mean mg mb} (d : RSd) : TellsT prog w (hd.heap_39 w.params) hd.view_39 (looseW hd.view_39 [Str.ofString "read_spans"]) mean mg mb 86 (readT w) d := by
  unfold TellsT
  intro dp un gd cn cs a ccd cl outer A₀ base h₀ L m news s vs Q E B F X N T hk hR hok hd hu hret
  obtain ⟨l, lo, hi⟩ := d
  change 0 ≤ lo ∧ lo ≤ hi ∧ hi ≤ l.length ∧ l.length ≤ 100000 at hok
  change (∃ t t1 t2, vs = [.bytes l.toArray t, .int lo t1, .int hi t2]) ∨ (∃ t, vs = [.bytes l.toArray t] ∧ lo = 0 ∧ hi = l.length) at hR
  revert vs
  refine' share ?main ?key
  case main =>
    intro key vs hR
    rcases hR with ⟨t, t1, t2, rfl⟩ | ⟨t, rfl, hlo, hhi⟩
    all_goals
      dsimp only at hd hu
      refine wpAny_call ?_
      k_dflt (refine' code_def ?k1 ?k2 ?k3 ?k4 ?k5 ?kA ?kF ?kK ?k6 ?k7 ?k8 ?k9 ?kB ?_ ?c2 ?c3 ?c4 ?c5; (case kA | kF => exact rfl); (case kK => assumption); (case k1 | k2 | k3 | k4 | k5 => k_asm); (case k6 | k7 => k_is); (case k8 => ktr_room); (case k9 => first | exact BindsTo.of_eq rfl | exact binds_K (by k_in) rfl (by k_is) rfl rfl rfl); (case c5 => decide); (case kB => exact locs rfl); (case c2 | c3 | c4 => exact rfl); k_whole; intro g' L' h' FG' F' N' B' X' T'; (try dsimp only); (try k_fold))
      k_steps
      refine Stop.into ?_
      rename Fr _ _ _ _ => lF'
      rename News _ _ _ _ => lN'
      rename ∀ p ∈ news, _ => lL'
      refine name_head lN' fun r hr => ?_
      subst hr
      try rw [← hhi] at lF'
      try rw [← hlo] at lF'
      rw [← List.append_nil news] at lN'
      refine gen_toks fun tk9 => ?_
      refine fr_four (l := l) (t := t) lF' rfl fun R t0 t1 t2 lF => ?_
      clear lF'
    all_goals
      rename Heap => hh
      rename Fr h₀ _ _ _ => FG
      refine name_heap FG fun g9 L9 hg hL => ?_
      subst hg
      clear L9 hL
      refine name_heap lF fun g8 L9 hg hL => ?_
      subst hL
      clear g8 hg
      revert g9 L9 hh tk9 r R t0 t1 t2 lL'
      refine key.get
  case key =>
    intro hh r lL' tk9 R t0 t1 t2 g9 FG B' X' T' qk L9 ek lN' lF'
    with_unfolding_all
      refine' ksw_while (σ := LoopC) (fun c => (r, W.listOf c.vs.toArray c.k) :: (news ++ c.tl)) (fun c => [(Str.ofString "here", .int c.here c.th)]) (fun c => All2 (RowIn w c.tl) c.vs c.rows ∧ (∀ p ∈ c.tl, r < p.1)) [Str.ofString "last", Str.ofString "later", Str.ofString "colon"] 
        (fun c => 0 ≤ c.here ∧ c.here ≤ hi ∧ (c.vs.length : Int) ≤ c.here ∧ (∀ res, Reads l hi c.here c.rows res → Reads l hi lo [] res)) (fun c => (hi - c.here).toNat) ⟨lo, _, [], 0, [], []⟩ lF' lN' ⟨All2.nil, List.forall_mem_nil _⟩ (List.forall_mem_cons.mpr ⟨rfl, List.forall_mem_nil _⟩) ⟨?_, ?_, ?_, fun _ h => h⟩ ?_
    all_goals first | (show _ ≤ _; dsimp only [List.length_nil]; omega) | skip
    rintro ⟨here, th, vs, k, tl, rows⟩ u h1 tk1 ⟨hrows, htl⟩ ⟨b1, b2, b3, b4⟩ F' N'
    dsimp only [kstB] at *
    clear lF' lN'
    try k_fold
    k_steps
    · exact ret_end (d := ⟨l, lo, hi⟩) hret (by k_asm) (by k_asm) lL' (ltN (by omega)) (htl_app htl (by assumption)) (b4 _ (.blank (by assumption) (by assumption))) (hrows.mono fun _ _ h => h.mono fun p hp => List.mem_append_left _ hp)
    · exact ret_end (d := ⟨l, lo, hi⟩) hret (by k_asm) (by k_asm) lL' (ltN (by omega)) (htl_app htl (by assumption)) (b4 _ (.nofield (by assumption) (by assumption) (by assumption))) (hrows.mono fun _ _ h => h.mono fun p hp => List.mem_append_left _ hp)
    · refine Stop.into ?_
      rename Fr _ _ _ _ => lF'
      rename News _ _ _ _ => lN'
      rename List (Addr × Obj) => tl9
      rename (∀ (q : Addr × Obj), q ∈ _ → ∀ (p : Addr × Obj), p ∈ tl9 → q.1 < p.1) => hl9
      have htl9 : ∀ p ∈ tl ++ tl9, r < p.1 := by
        intro p hp
        rcases List.mem_append.mp hp with hp | hp
        · exact htl p hp
        · exact hl9 _ (List.mem_cons_self ..) p hp
      with_unfolding_all
        refine' ksw_while (σ := LoopD) (fun c => (r, W.listOf vs.toArray k) :: (news ++ c.tl)) (fun c => [(Str.ofString "last", .int c.last c.t1), (Str.ofString "later", .int c.later c.t2)]) (fun c => (∀ p ∈ tl, p ∈ c.tl) ∧ (∀ p ∈ c.tl, r < p.1)) []
          (fun c => here < c.later ∧ c.later ≤ hi ∧ c.last ≤ hi ∧ colonIn l here (lineAt l here hi).1 < c.last ∧ c.last ≤ c.later ∧ (∀ q, White l hi c.last c.later q → White l hi (lineAt l here hi).1 (lineAt l here hi).2 q)) (fun c => (hi - c.later).toNat)
          ⟨(lineAt l here hi).1, (lineAt l here hi).2, _, _, tl ++ tl9⟩ lF' lN' ⟨fun p hp => List.mem_append_left _ hp, htl9⟩ (List.forall_mem_cons.mpr ⟨rfl, List.forall_mem_cons.mpr ⟨rfl, List.forall_mem_nil _⟩⟩) ⟨?_, ?_, ?_, ?_, ?_, fun _ h => h⟩ ?_
      all_goals first | (dsimp only; omega) | skip
      rintro ⟨last, later, x1, x2, tlc⟩ u h2 tk2 ⟨c1, c2⟩ ⟨p1, p2, p3, p4, p5, p6⟩ F' N'
      dsimp only [kstB] at *
      clear lF' lN'
      try k_fold
      have hoff : OwnOff (news ++ tlc) [r] := by
        intro p hp b hb
        rw [List.mem_singleton.mp hb]
        rcases List.mem_append.mp hp with hp | hp
        · exact Nat.ne_of_lt (lL' p hp)
        · exact Nat.ne_of_gt (c2 p hp)
      have hvs : vs.length + 1 ≤ 16777216 := by omega
      have hin : Inside := trivial
      k_steps
      refine Stop.into ?_
      rename Inside => hin
      clear hin
      refine join_test (later < hi ∧ isWhite (l.getD later.toNat 0)) ?_ ?_ ?_
      · intro Q' q1 q2
        k_steps
        refine Stop.into ?_
        k_dflt (refine' in_K2 ?X ?l ?_; (case X => k_in); (case l => k_is); k_whole)
        k_steps
        · exact q1 _ ⟨by assumption, by unfold isWhite; omega⟩
        · exact q2 _ fun h => absurd h.2 (by unfold isWhite; omega)
        · exact q2 _ fun h => absurd h.1 (by assumption)
      · intro k hC
        dsimp only
        k_steps
        refine ksw_end (⟨(lineAt l later hi).1, (lineAt l later hi).2, _, _, _⟩ : LoopD) (by assumption) (by assumption) (fun p hp => hp) ⟨fun p hp => List.mem_append_left _ (c1 p hp), htl_app c2 (by assumption)⟩ (List.forall_mem_cons.mpr ⟨rfl, List.forall_mem_cons.mpr ⟨rfl, List.forall_mem_nil _⟩⟩) (by ksw_same) ⟨?_, ?_, ?_, ?_, ?_, fun q hq => p6 q (.more hC.1 hC.2 hq)⟩ ?_
        all_goals (dsimp only; omega)
      · intro k hC
        dsimp only
        k_steps
        refine outer_end (by assumption) (by assumption) (ltN (by omega)) (ltN (by omega)) (ltN (by omega)) c1 c2 hrows rfl (by ksw_same) (by omega) p2 (by dsimp only; omega) (fun res hr => b4 res (.field (by assumption) (by assumption) (by assumption) (p6 _ (.stop hC)) hr)) (by dsimp only; omega)
    · exact ret_end (d := ⟨l, lo, hi⟩) hret (by k_asm) (by k_asm) lL' (ltN (by omega)) htl (b4 _ (.done (by assumption))) hrows
theorem off_7 : True := by
  w_top off
  trivial
section
open PySem.Builtin
def BytesIs (v : Value) (d : List UInt8) : Prop := ∃ t, v = .bytes d.toArray t
theorem All2.get {α : Type} {R : Value → α → Prop} {vs : List Value} {ds : List α} (h : All2 R vs ds) : ∀ {k : Nat} (hk : k < vs.length), R (vs[k]'hk) (ds[k]'(by rw [← h.length]; exact hk)) := by
  induction h with
  | nil => intro k hk; exact absurd hk (Nat.not_lt_zero _)
  | cons h r ih =>
    intro k hk
    cases k with
    | zero => exact h
    | succ k => exact ih (Nat.lt_of_succ_lt_succ hk)
theorem seqItems_at {M : Model} {A : Around} {E : Value → Shared → Prop} {s : Shared} {a : Addr} {o : Obj} {xs : Array Value} {n : Nat} {Q : Option (Array Value) → Shared → Prop} (ho : s.heap.get? a = some o) (hd : o.data = .seq xs n) (h : Q (some xs) s) :
    wpAny M A (seqItems? (.ref a)) Q E s := by
  unfold seqItems?
  refine wpAny_bind (wpAny_load ho ?_)
  rw [hd]
  exact wpAny_pure h
theorem joinItems_at {M : Model} {A : Around} {E : Value → Shared → Prop} {s : Shared} {a : Addr} {o : Obj} {Q : Value → Shared → Prop} (ho : s.heap.get? a = some o) (hc : o.cls = .type "list") (h : Q (.ref a) s) :
    wpAny M A (Bytes.joinItems (.ref a)) Q E s := by
  unfold Bytes.joinItems
  refine wpAny_bind (wpAny_typeOf (T := "list") ⟨o, ho, hc⟩ ?_)
  exact wpAny_pure h
theorem joinM_two {α : Type} (f : Value → α) (g : Array Value → α) (x y : Value) (l : List Value) : Bytes.joinM.match_1 (fun _ => α) (x :: y :: l).toArray f g = g (x :: y :: l).toArray := rfl
theorem joinM_one {α : Type} (f : Value → α) (g : Array Value → α) (x : Value) : Bytes.joinM.match_1 (fun _ => α) [x].toArray f g = f x := rfl
theorem takeQuiet_eq {id : String} {b : Array UInt8} {t : Tok} : Bytes.takeBufferQuiet? id (.bytes b t) 0 = pure (some (b, none)) := by
  have e : Bytes.takeBuffer? id (.bytes b t) 0 = pure (some (b, none)) := by
    have hb : Bytes.buffer? id (.bytes b t) false = pure (some b) := KBy.buffer_eq
    unfold Bytes.takeBuffer?
    rw [KBy.special_eq KBy.look_buffer, KBy.own_buffer]
    show (Bytes.buffer? id (.bytes b t) ((0 : Int) == Bytes.fullReadOnly) >>= fun r => _) = _
    rw [show ((0 : Int) == Bytes.fullReadOnly) = false from by decide, hb]
    rfl
  unfold Bytes.takeBufferQuiet?
  rw [e]
  rfl
theorem letGo_at {M : Model} {A : Around} {E : Value → Shared → Prop} {s : Shared} {x : Value} {later : List Value} {Q : Unit → Shared → Prop} (h : Q () s) : wpAny M A (letGo [x] later) Q E s := by
  unfold letGo letGo
  exact wpAny_bind (wpAny_holding (wpAny_point (wpAny_pure h)))
theorem joinLetGo_at {M : Model} {A : Around} {E : Value → Shared → Prop} {s : Shared} {keep : List Value} {Q : Unit → Shared → Prop} (h : Q () s) : ∀ (taken : List (Value × Option Value)), (∀ p ∈ taken, p.2 = none) → wpAny M A (Bytes.joinLetGo taken keep) Q E s
  | [], _ => by unfold Bytes.joinLetGo; exact wpAny_pure h
  | (x, w) :: rest, hn => by
    obtain rfl : w = none := hn (x, w) (.head _)
    unfold Bytes.joinLetGo
    exact wpAny_bind (letGo_at (joinLetGo_at h rest fun p hp => hn p (.tail _ hp)))
theorem joined_nil (ps : List (List UInt8)) : Bytes.joined #[] (ps.map List.toArray) = ps.flatten.toArray := by
  unfold Bytes.joined
  have key : ∀ (qs : List (List UInt8)) (k : Nat) (acc : Array UInt8), ((qs.map List.toArray).zipIdx k).foldl (fun out (x : Array UInt8 × Nat) => (if x.2 > 0 then out ++ #[] else out) ++ x.1) acc = acc ++ qs.flatten.toArray := by
    intro qs
    induction qs with
    | nil => intro k acc; simp
    | cons q qs ih =>
      intro k acc
      rw [List.map_cons, List.zipIdx_cons, List.foldl_cons, ih]
      simp [Array.append_assoc]
  have h := key ps 0 #[]
  simp only [Array.empty_append] at h
  exact h
theorem sizes_fold (ps : List (List UInt8)) : ((ps.map List.toArray).toArray).foldl (fun (n : Nat) (x : Array UInt8) => n + x.size) 0 = ps.flatten.length := by
  have key : ∀ (qs : List (List UInt8)) (n : Nat), (qs.map List.toArray).foldl (fun (n : Nat) (x : Array UInt8) => n + x.size) n = n + qs.flatten.length := by
    intro qs
    induction qs with
    | nil => intro n; simp
    | cons q qs ih => intro n; simp only [List.map_cons, List.foldl_cons, List.flatten_cons, List.length_append]; rw [ih]; simp; omega
  simpa using key ps 0
theorem meets_join {a : Addr} {t : Tok} {vs : List Value} {ps : List (List UInt8)} (hv : All2 BytesIs vs ps) (h1 : 1 ≤ ps.length) (hz : ps.flatten.length ≤ 16777216) :
    Meets («bytes.join» ⟨[.bytes #[] t, .ref a], []⟩) (fun _ R s => (∃ o n, s.heap.get? a = some o ∧ o.cls = .type "list" ∧ o.data = .seq vs.toArray n) ∧ ∀ t' k, R (.ok (.ret (.bytes ps.flatten.toArray t'))) { s with toks := k }) := by
  refine .of_wp fun prog w A R s hS => ?_
  obtain ⟨⟨o, n, ho, hc, hd⟩, h⟩ := hS
  show wpAny _ _ (Bytes.joinM .bytes _) _ _ s
  unfold Bytes.joinM
  show wpAny _ _ (selfAndOne _ _ >>= fun r => _) _ _ s
  refine wpAny_bind (wpAny_of_eq (a := (.bytes #[] t, .ref a)) (by kernel_rfl) ?_)
  dsimp only
  refine wpAny_bind (joinItems_at ho hc ?_)
  refine wpAny_bind (seqItems_at ho hd ?_)
  dsimp only
  rw [if_pos (by rfl)]
  cases hv with
  | nil => simp at h1
  | @cons v vs' p ps' hv0 hvr =>
    cases hvr with
    | nil =>
      obtain ⟨u, rfl⟩ := hv0
      rw [joinM_one]
      refine wpAny_bind (wpAny_typeOf (typeIs_bytes s _ _) ?_)
      rw [if_pos (by rfl)]
      refine wpAny_bind (wpAny_rule ?_)
      refine wpAny_pure ⟨_, rfl, ?_⟩
      have h9 := h u s.toks
      simp only [List.flatten_cons, List.flatten_nil, List.append_nil] at h9
      exact h9
    | @cons v2 vs2 p2 ps2 hv2 hvr2 =>
      rw [joinM_two]
      generalize hvs : v :: v2 :: vs2 = vs at hd ⊢
      have hv : All2 BytesIs vs (p :: p2 :: ps2) := by rw [← hvs]; exact .cons hv0 (.cons hv2 hvr2)
      generalize p :: p2 :: ps2 = ps at h1 hz h hv
      clear hvs hvr2 hv2 hv0
      have hlen := hv.length
      refine wpAny_bind ?_
      rw [Std.Legacy.Range.forIn_eq_forIn_range']
      have hr : List.range' [:vs.toArray.size].start [:vs.toArray.size].size [:vs.toArray.size].step = List.range' 0 vs.length := by
        simp [Std.Legacy.Range.size]
      rw [hr]
      refine wpAny_forIn_list _ (fun rest st s' => s' = s ∧ ∃ i, i ≤ vs.length ∧ rest = List.range' i (vs.length - i) ∧ st.1 = ((ps.take i).map List.toArray).toArray ∧ (∀ p ∈ st.2, p.2 = none ∧ p.1.onHeap = false)) _ ?_ ?_ _ _ ⟨rfl, 0, Nat.zero_le _, by simp, by simp, fun _ hp => nomatch hp⟩
      · rintro j rest ⟨parts, taken⟩ s' ⟨rfl, i, hi, hrest, hparts, htaken⟩
        dsimp only at hparts htaken
        have hlt : i < vs.length := by
          rcases Nat.lt_or_ge i vs.length with h | h
          · exact h
          · rw [show vs.length - i = 0 by omega] at hrest
            cases hrest
        rw [show vs.length - i = (vs.length - i - 1) + 1 by omega, List.range'_succ] at hrest
        injection hrest with e1 e2
        subst e1
        obtain ⟨u, hu⟩ := hv.get (k := j) (by omega)
        refine wpAny_bind (seqItems_at ho hd ?_)
        dsimp only
        have hany : (taken.any fun x => x.1.onHeap) = false := by
          rw [List.any_eq_false]
          intro p hp
          rw [(htaken p hp).2]
          decide
        rw [hany]
        rw [if_neg (by decide)]
        have hx : vs.toArray.getD j Value.none = .bytes (ps[j]'(by omega)).toArray u := by
          simp [Array.getD, hlt, hu]
        rw [hx]
        refine wpAny_bind (wpAny_holding (wpAny_of_eq takeQuiet_eq ?_))
        dsimp only
        refine wpAny_bind (seqItems_at ho hd ?_)
        dsimp only
        rw [if_neg (by simp)]
        refine wpAny_pure ⟨rfl, j + 1, by omega, ?_, ?_, ?_⟩
        · rw [e2]; congr 1
        · have hj : j < ps.length := by omega
          have e : ps.take (j + 1) = ps.take j ++ [ps[j]] := by rw [List.take_add_one, List.getElem?_eq_getElem hj]; rfl
          dsimp only
          rw [hparts, e, List.map_append, List.push_toArray]
          rfl
        · intro p hp
          rcases List.mem_append.mp hp with hp | hp
          · exact htaken p hp
          · rw [List.mem_singleton.mp hp]; exact ⟨rfl, rfl⟩
      · rintro ⟨parts, taken⟩ s' ⟨rfl, i, hi, hrest, hparts, htaken⟩
        dsimp only at hparts htaken
        have hi' : i = vs.length := by
          rcases Nat.lt_or_ge i vs.length with h | h
          · rw [show vs.length - i = (vs.length - i - 1) + 1 by omega, List.range'_succ] at hrest
            cases hrest
          · omega
        rw [hi', hlen, List.take_length] at hparts
        subst hparts
        refine wpAny_bind (wpAny_of_eq (a := (#[] : Array UInt8)) rfl ?_)
        dsimp only
        have hz' : Bytes.tooLong (Array.foldl (fun x1 x2 => x1 + x2.size) ((#[] : Array UInt8).size * ((ps.map List.toArray).toArray.size - 1)) (ps.map List.toArray).toArray) = false := by
          rw [show ((#[] : Array UInt8).size * ((ps.map List.toArray).toArray.size - 1)) = 0 by simp, sizes_fold]
          exact KBy.tooLong_not hz
        rw [hz', if_neg Bool.false_ne_true]
        have hj : Bytes.joined #[] (ps.map List.toArray).toArray.toList = ps.flatten.toArray := joined_nil ps
        rw [hj]
        refine wpAny_bind (wpAny_mkBytes ?_ (by rw [sizeLine_eq, List.size_toArray]; exact hz))
        refine wpAny_bind (wpAny_holding (wpAny_point ?_))
        refine wpAny_bind (joinLetGo_at ?_ _ fun p hp => (htaken p hp).1)
        exact wpAny_pure ⟨_, rfl, h _ _⟩
section
variable {prog : Program} {w : World} {A : Around} {E : Value → Shared → Prop} {s : Shared} {h₀ : Heap} {L a : Addr} {news : List (Addr × Obj)} {vs : List Value} {ps : List (List UInt8)} {n : Nat} {t : Tok} {Q : Value → Shared → Prop}
theorem join_L (N : News h₀ L s.heap news) (hm : (a, W.listOf vs.toArray n) ∈ news) (hv : All2 BytesIs vs ps) (h1 : 1 ≤ ps.length) (hz : ps.flatten.length ≤ 16777216) (h : ∀ t' k, Q (.bytes ps.flatten.toArray t') { s with toks := k }) :
    wpAny (model prog w) A (call (.builtin "bytes.join") [.bytes #[] t, .ref a]) Q E s :=
  call_meets slot_join (typeIs_bytes _ _ _) entry_join (args_join _ _) (meets_join hv h1 hz) ⟨⟨_, n, N.get hm, rfl, rfl⟩, h⟩
end
end
section
open PySem.Builtin
/-- what strip leaves -/
def stripL (set l : List UInt8) : List UInt8 := ((l.dropWhile set.toArray.contains).reverse.dropWhile set.toArray.contains).reverse
theorem dropWhile_all {α : Type} {p : α → Bool} {l : List α} (h : (l.dropWhile p).length = l.length) : l.dropWhile p = l := (List.dropWhile_suffix p).eq_of_length h
theorem dropWhile_le {α : Type} {p : α → Bool} {l : List α} : (l.dropWhile p).length ≤ l.length := (List.dropWhile_suffix p).length_le
theorem stripL_le (set l : List UInt8) : (stripL set l).length ≤ l.length := by
  unfold stripL
  rw [List.length_reverse]
  refine Nat.le_trans dropWhile_le ?_
  rw [List.length_reverse]
  exact dropWhile_le
theorem stripL_all {set l : List UInt8} (h : (stripL set l).length = l.length) : stripL set l = l := by
  unfold stripL at h ⊢
  have h1 : (l.dropWhile set.toArray.contains).length ≤ l.length := dropWhile_le
  have h2 : ((l.dropWhile set.toArray.contains).reverse.dropWhile set.toArray.contains).length ≤ (l.dropWhile set.toArray.contains).reverse.length := dropWhile_le
  rw [List.length_reverse] at h h2
  have e1 : l.dropWhile set.toArray.contains = l := dropWhile_all (by omega)
  rw [e1] at h ⊢
  rw [dropWhile_all (by rw [List.length_reverse]; exact h), List.reverse_reverse]
theorem gives_strip (l set : List UInt8) (t u : Tok) (hz : l.length ≤ 16777216) :
    Meets («bytes.strip» ⟨[.bytes l.toArray t, .bytes set.toArray u], []⟩) (fun _ R s => ∀ t' k, R (.ok (.ret (.bytes (stripL set l).toArray t'))) { s with toks := k }) := by
  refine .of_wp fun prog w A R s h => ?_
  show wpAny _ _ (Bytes.stripM .bytes "strip" true true _) _ _ s
  unfold Bytes.stripM
  show wpAny _ _ (selfAndSome _ _ 0 1 _ >>= fun r => _) _ _ s
  refine wpAny_bind (wpAny_of_eq (a := (.bytes l.toArray t, [.bytes set.toArray u])) (by kernel_rfl) ?_)
  dsimp only
  refine wpAny_bind (wpAny_of_eq KBd.like_eq ?_)
  refine wpAny_bind (wpAny_pure ?_)
  refine wpAny_bind (wpAny_of_eq (a := l.toArray) rfl ?_)
  show wpAny _ _ (if ((stripL set l).length == l.toArray.size) = true then _ else _) _ _ s
  by_cases hc : ((stripL set l).length == l.toArray.size) = true
  · rw [if_pos hc]
    have e : stripL set l = l := stripL_all (by simpa using hc)
    rw [e] at h
    refine wpAny_bind (wpAny_rule ?_)
    refine wpAny_bind ?_
    unfold Bytes.Kind.same
    rw [if_pos (by rfl)]
    refine wpAny_bind (wpAny_typeOf (typeIs_bytes s _ _) ?_)
    rw [if_pos (by rfl)]
    exact wpAny_pure (wpAny_pure ⟨_, rfl, h t s.toks⟩)
  · rw [if_neg hc]
    exact wpAny_bind (wpAny_mkBytes (wpAny_pure ⟨_, rfl, h _ _⟩) (by rw [List.size_toArray, sizeLine_eq]; exact Nat.le_trans (stripL_le set l) hz))
section
variable {prog : Program} {w : World} {A : Around} {E : Value → Shared → Prop} {s : Shared} {l set : List UInt8} {t u : Tok} {Q : Value → Shared → Prop}
theorem strip_L (hz : l.length ≤ 16777216) (h : ∀ t' k, Q (.bytes (stripL set l).toArray t') { s with toks := k }) :
    wpAny (model prog w) A (call (.builtin "bytes.strip") [.bytes l.toArray t, .bytes set.toArray u]) Q E s :=
  call_meets slot_strip (typeIs_bytes _ _ _) entry_strip (args_strip _ _) (gives_strip l set t u hz) h
end
end
theorem off_8 : True := by
  w_top off
  trivial
/-- what rows_of gives -/
inductive RowsOf (l : List UInt8) : Int → List (List UInt8) → List (List UInt8) → Prop
  | last {i : Int} {rows : List (List UInt8)} : (lineAt l i l.length).1 = l.length → RowsOf l i rows (rows ++ [cutL l i (lineAt l i l.length).1])
  | more {i : Int} {rows res : List (List UInt8)} : (lineAt l i l.length).1 ≠ l.length → RowsOf l (lineAt l i l.length).2 (rows ++ [cutL l i (lineAt l i l.length).1]) res → RowsOf l i rows res
abbrev rowsT : ToldN (List UInt8) where
  Rel := fun _ vs d => ∃ t, vs = [.bytes d.toArray t]
  Ok := fun d => d.length ≤ 100000
  size := fun _ => 2
  Tl := fun _ => True
  Out := fun nx v d => ∃ res rv vs k, RowsOf d 0 [] res ∧ v = .ref rv ∧ (rv, W.listOf vs.toArray k) ∈ nx ∧ All2 BytesIs vs res ∧ 1 ≤ res.length ∧ res.flatten.length ≤ d.length
structure LoopR where
  i : Int
  ti : Tok
  vs : List Value
  k : Nat
  tl : List (Addr × Obj)
  rows : List (List UInt8)
theorem off_app {r : Addr} {o : Obj} {news tl tl9 : List (Addr × Obj)} (h1 : ∀ p ∈ news, p.1 < r) (h2 : ∀ p ∈ tl, r < p.1) (h3 : ∀ q ∈ (r, o) :: (news ++ tl), ∀ p ∈ tl9, q.1 < p.1) : ∀ p ∈ news ++ (tl ++ tl9), p.1 ≠ r := by
  intro p hp
  rcases List.mem_append.mp hp with hp | hp
  · exact Nat.ne_of_lt (h1 p hp)
  · exact Nat.ne_of_gt (htl_app h2 h3 p hp)
theorem push_list (vs : List Value) (v : Value) : vs.toArray.push v = (vs ++ [v]).toArray := by simp
theorem order1 {r : Addr} {o : Obj} {news tl : List (Addr × Obj)} (h1 : ∀ p ∈ news, p.1 < r) (h2 : ∀ p ∈ tl, r < p.1) : ∀ q ∈ news, ∀ p ∈ (r, o) :: tl, q.1 < p.1 := by
  intro q hq p hp
  rcases List.mem_cons.mp hp with rfl | hp
  · exact h1 q hq
  · exact Nat.lt_trans (h1 q hq) (h2 p hp)
theorem rows_ret {d : List UInt8} {h₀ : Heap} {L : Addr} {m : Str → Option Value} {news : List (Addr × Obj)} {s : Shared} {Q : Value → Shared → Prop}
    (hret : ∀ r tl h' tk', Fr h₀ L h' m → News h₀ L h' (news ++ tl) → (∀ q ∈ news, ∀ p ∈ tl, q.1 < p.1) → rowsT.Tl tl → rowsT.Out (news ++ tl) r d → Q r { s with heap := h', toks := tk' })
    {heap : Heap} {tk : Nat} {r : Addr} {k : Nat} {vs : List Value} {v : Value} {tl' : List (Addr × Obj)} {res : List (List UInt8)}
    (kF : Fr h₀ L heap m) (kN : News h₀ L heap ((r, W.listOf (vs.toArray.push v) k) :: (news ++ tl'))) (h1 : ∀ p ∈ news, p.1 < r) (h3 : ∀ p ∈ tl', r < p.1)
    (hA : All2 BytesIs (vs ++ [v]) res) (hR : RowsOf d 0 [] res) (hl : 1 ≤ res.length) (hf : res.flatten.length ≤ d.length) : Q (.ref r) { s with heap := heap, toks := tk } := by
  rw [push_list] at kN
  exact hret _ _ _ _ kF (ktn_tl2 kN) (order1 h1 h3) trivial ⟨res, r, vs ++ [v], k, hR, rfl, List.mem_append_right _ (.head _), hA, hl, hf⟩
theorem rows_end {g h' : Heap} {L' r : Addr} {s₁ : Shared} {m₀ m' : Str → Option Value} {news tlc : List (Addr × Obj)} {tk : Nat} {c : LoopR} {d x : List UInt8} {later : Int} {t2 : Tok} {v : Value} {stored : List Str}
    (F' : Fr g L' h' m') (N' : News g L' h' ((r, W.listOf (c.vs.toArray.push v) (c.k + 1)) :: (news ++ tlc))) (c2 : ∀ p ∈ tlc, r < p.1) (hrows : All2 BytesIs (c.vs ++ [v]) (c.rows ++ [x]))
    (hk : m' (Str.ofString "at") = some (.int later t2)) (hr : ∀ z, (∀ p ∈ [(Str.ofString "at", Value.int later t2)], z ≠ p.1) → stored.contains z = false → m' z = m₀ z)
    (b1 : 0 ≤ later) (b2 : later ≤ d.length) (b3 : (c.vs.length : Int) + 1 ≤ later) (b4 : (c.rows.flatten.length : Int) + x.length ≤ later) (b5 : ∀ res, RowsOf d later (c.rows ++ [x]) res → RowsOf d 0 [] res) (hm : ((d.length : Int) - later).toNat < ((d.length : Int) - c.i).toNat) :
    KswEnd g L' s₁ (fun (c : LoopR) => (r, W.listOf c.vs.toArray c.k) :: (news ++ c.tl)) (fun (c : LoopR) => [(Str.ofString "at", .int c.i c.ti)]) (fun (c : LoopR) => All2 BytesIs c.vs c.rows ∧ (∀ p ∈ c.tl, r < p.1)) stored m₀
      (fun (c : LoopR) => 0 ≤ c.i ∧ c.i ≤ d.length ∧ (c.vs.length : Int) ≤ c.i ∧ (c.rows.flatten.length : Int) ≤ c.i ∧ (∀ res, RowsOf d c.i c.rows res → RowsOf d 0 [] res)) (fun (c : LoopR) => ((d.length : Int) - c.i).toNat) c { s₁ with heap := h', toks := tk } := by
  rw [push_list] at N'
  refine ksw_end (⟨later, t2, c.vs ++ [v], c.k + 1, tlc, c.rows ++ [x]⟩ : LoopR) F' N' (fun p hp => hp) ⟨hrows, c2⟩ (List.forall_mem_cons.mpr ⟨hk, List.forall_mem_nil _⟩) hr ⟨b1, b2, ?_, ?_, b5⟩ hm
  · simp only [List.length_append, List.length_cons, List.length_nil]; omega
  · simp only [List.flatten_append, List.flatten_cons, List.flatten_nil, List.append_nil, List.length_append]; omega
local macro_rules | `(tactic| walk_at "exec While Constant cons nil") => `(tactic| (refine Stop.out ?_))
local macro_rules | `(tactic| k_all) => `(tactic| exact off_app (by assumption) (by assumption) (by assumption))
theorem rows_ok {prog : Program} {w : World} {mean mg mb} (d : List UInt8) : TellsN prog w (hd.heap_39 w.params) hd.view_39 (looseW hd.view_39 [Str.ofString "read_spans"]) mean mg mb 93 rowsT d := by
  unfold TellsN
  intro dp un gd cn cs a ccd cl outer A₀ base h₀ L m news s vs Q E B F X N T hk hR hok hd hu hret
  obtain ⟨t, rfl⟩ := hR
  dsimp only at hd hu hok
  refine wpAny_call ?_
  k_dflt ktr_enter
  k_steps
  refine Stop.into ?_
  rename Fr _ _ _ _ => lF'
  rename News _ _ _ _ => lN'
  rename ∀ p ∈ news, _ => lL'
  refine name_head lN' fun r hr => ?_
  subst hr
  rw [← List.append_nil news] at lN'
  with_unfolding_all
    refine' ksw_while (σ := LoopR) (fun c => (r, W.listOf c.vs.toArray c.k) :: (news ++ c.tl)) (fun c => [(Str.ofString "at", .int c.i c.ti)]) (fun c => All2 BytesIs c.vs c.rows ∧ (∀ p ∈ c.tl, r < p.1)) [Str.ofString "last", Str.ofString "later"]
      (fun c => 0 ≤ c.i ∧ c.i ≤ d.length ∧ (c.vs.length : Int) ≤ c.i ∧ (c.rows.flatten.length : Int) ≤ c.i ∧ (∀ res, RowsOf d c.i c.rows res → RowsOf d 0 [] res)) (fun c => ((d.length : Int) - c.i).toNat) ⟨0, _, [], 0, [], []⟩ lF' lN' ⟨All2.nil, List.forall_mem_nil _⟩ (List.forall_mem_cons.mpr ⟨rfl, List.forall_mem_nil _⟩) ⟨?_, ?_, ?_, ?_, fun _ h => h⟩ ?_
  all_goals first | (show (_ : Int) ≤ _; (try simp only [List.length_nil, List.flatten_nil]); omega) | skip
  rintro ⟨i, ti, vs, k, tl, rows⟩ u h1 tk1 ⟨hrows, htl⟩ ⟨b1, b2, b3, b4, b5⟩ F' N'
  dsimp only [kstB] at *
  clear lF' lN'
  have hvs : vs.length + 1 ≤ 16777216 := by omega
  try k_fold
  k_steps
  · have hc := cutL_len (l := d) (lo := i) (hi := (lineAt d i d.length).1) b1 (by omega) (by omega)
    refine rows_ret hret (by k_asm) (by k_asm) lL' (htl_app htl (by assumption)) (All2.snoc ⟨_, rfl⟩ hrows) (b5 _ (.last (by assumption))) (by simp) ?_
    simp only [List.flatten_append, List.flatten_cons, List.flatten_nil, List.append_nil, List.length_append]
    omega
  · have hc := cutL_len (l := d) (lo := i) (hi := (lineAt d i d.length).1) b1 (by omega) (by omega)
    refine rows_end (by assumption) (by assumption) (htl_app htl (by assumption)) (All2.snoc ⟨_, rfl⟩ hrows) rfl (by ksw_same) ?_ ?_ ?_ ?_ (fun res hr => b5 res (.more (by assumption) hr)) ?_
    all_goals ((try dsimp only); omega)
theorem rows_rel {news : List (Addr × Obj)} {l : List UInt8} {t : Tok} : rowsT.Rel news [.bytes l.toArray t] l := ⟨t, rfl⟩
local macro_rules | `(tactic| walk_at "call ref") => `(tactic| (k_here; k_dflt (refine' told rows_rel (rows_ok _) (by walk_at "m:five") (by walk_at "m:sides") ?_); intro _ _ _ _ _ N9 _ _ ho9; (dsimp only at ho9); (obtain ⟨_, _, _, _, _, e9, hm9, _, _, _⟩ := ho9); subst e9; (try simp only [List.cons_append, List.append_assoc, List.nil_append] at N9 hm9); (try k_sweep)))
/-- what unfolded gives -/
abbrev unfT : ToldN (List UInt8) where
  Rel := fun _ vs d => ∃ t, vs = [.bytes d.toArray t]
  Ok := fun d => d.length ≤ 100000
  size := fun _ => 3
  Tl := fun _ => True
  Out := fun nx v d => ∃ res t, RowsOf d 0 [] res ∧ v = .bytes (stripL [32, 9] res.flatten).toArray t
local macro_rules | `(tactic| walk_at "call builtin:bytes.join") => `(tactic| (refine Stop.out ?_))
local macro_rules | `(tactic| walk_at "call builtin:bytes.strip") => `(tactic| (refine Stop.out ?_))
theorem unf_ok {prog : Program} {w : World} {mean mg mb} (d : List UInt8) : TellsN prog w (hd.heap_39 w.params) hd.view_39 (looseW hd.view_39 [Str.ofString "read_spans"]) mean mg mb 100 unfT d := by
  unfold TellsN
  intro dp un gd cn cs a ccd cl outer A₀ base h₀ L m news s vs Q E B F X N T hk hR hok hd hu hret
  obtain ⟨t, rfl⟩ := hR
  dsimp only at hd hu hok
  refine wpAny_call ?_
  k_dflt ktr_enter
  k_steps
  refine Stop.into ?_
  k_dflt (refine' join_L ?N ?m ?v ?h1 ?z ?_; (case N => k_asm); (case m => k_mem); (case v | h1 => assumption); (case z => walk_at "m:b"); k_whole)
  intro _ _
  k_steps
  refine Stop.into ?_
  refine strip_L (by walk_at "m:b") ?_
  intro _ _
  k_steps
  exact hret _ _ _ _ (by k_asm) (by k_asm) (by assumption) trivial ⟨_, _, by assumption, rfl⟩
theorem unf_rel {news : List (Addr × Obj)} {l : List UInt8} {t : Tok} : unfT.Rel news [.bytes l.toArray t] l := ⟨t, rfl⟩
local macro_rules | `(tactic| walk_at "call ref") => `(tactic| (k_here; k_dflt (refine' told unf_rel (unf_ok _) (by walk_at "m:five") (by walk_at "m:sides") ?_); intro _ _ _ _ _ N9 _ _ ho9; (dsimp only at ho9); (obtain ⟨_, _, _, e9⟩ := ho9); subst e9; (try simp only [List.cons_append, List.append_assoc, List.nil_append] at N9); (try k_sweep)))
theorem off_9 : True := by
  w_top off
  trivial
/-- a for, from where its iterator stands -/
def ForAt (prog : Program) (w : World) (A : Around) (env : Env) (target : PySem.Expr) (body : List Stmt) (Q : Flow → Shared → Prop) (E : Value → Shared → Prop) (it : Value) (s₂ : Shared) : Prop :=
  codeAny (model prog w) A (.forLoop target it body [] env) (fun r s' => match r with | .ok f => Q f s' | .error e => cameBackBy (model prog w) A env E e s') s₂
def FwEnd {σ : Type} (h₀ : Heap) (L : Addr) (s : Shared) (I : Addr) (o : Obj) (Led : σ → List (Addr × Obj)) (ps : σ → List (Str × Value)) (stored : List Str) (m₀ : Str → Option Value) (Inv : σ → Prop) (s₂ : Shared) : Prop :=
  ∃ (c' : σ) (h' : Heap) (tk : Nat) (m' : Str → Option Value) (news' : List (Addr × Obj)), s₂ = { s with heap := h', toks := tk } ∧ Fr h₀ L h' m' ∧ News h₀ L h' news' ∧ (I, o) ∈ news' ∧ (∀ p ∈ Led c', p ∈ news') ∧ (∀ p ∈ Led c', p.1 ≠ I) ∧ (∀ p ∈ ps c', m' p.1 = some p.2) ∧ (∀ z, (∀ p ∈ ps c', z ≠ p.1) → stored.contains z = false → m' z = m₀ z) ∧ Inv c'
def FwPost {σ : Type} (h₀ : Heap) (L : Addr) (s : Shared) (I : Addr) (o : Obj) (Led : σ → List (Addr × Obj)) (ps : σ → List (Str × Value)) (stored : List Str) (m₀ : Str → Option Value) (Inv : σ → Prop) (Q : Flow → Shared → Prop) (f : Flow) (s₂ : Shared) : Prop :=
  match f with
  | .ret v => Q (.ret v) s₂
  | .brk => Q .next s₂
  | _ => FwEnd h₀ L s I o Led ps stored m₀ Inv s₂
theorem fw_end {σ : Type} {h₀ : Heap} {L : Addr} {s : Shared} {I : Addr} {o : Obj} {Led : σ → List (Addr × Obj)} {ps : σ → List (Str × Value)} {stored : List Str} {m₀ m' : Str → Option Value} {Inv : σ → Prop} {h' : Heap} {tk : Nat} {news' : List (Addr × Obj)} (c' : σ)
    (F : Fr h₀ L h' m') (N : News h₀ L h' news') (hI : (I, o) ∈ news') (hn : ∀ p ∈ Led c', p ∈ news') (hne : ∀ p ∈ Led c', p.1 ≠ I) (hk : ∀ p ∈ ps c', m' p.1 = some p.2) (hr : ∀ z, (∀ p ∈ ps c', z ≠ p.1) → stored.contains z = false → m' z = m₀ z) (hp : Inv c') :
    FwEnd h₀ L s I o Led ps stored m₀ Inv { s with heap := h', toks := tk } := ⟨c', h', tk, m', news', rfl, F, N, hI, hn, hne, hk, hr, hp⟩
section
variable {prog : Program} {w : World} {A : Around} {E : Value → Shared → Prop} {Q : Flow → Shared → Prop} {s : Shared} {env : Env} {h₀ : Heap}
theorem For_at {target iter : PySem.Expr} {body : List Stmt} {pos : Pos} (h : wpAny (model prog w) A (eval iter env) (fun x s₁ => wpAny (model prog w) A (pyIter x) (fun it s₂ => ForAt prog w A env target body Q E it s₂) E s₁) E s)
    (hs : ∀ x, foldedSetIterable iter env x = pure x := by intro _; rfl) : wpAny (model prog w) A (exec (.For target iter body [] pos) env) Q E s := wpAny_For h hs
theorem for_walk {σ : Type} {target : PySem.Expr} {body : List Stmt} {I : Addr} {fp : List Addr} {n : Nat} {P : Nat → Value → Prop} {St : Nat → Heap → Prop} {m₀ : Str → Option Value} (W : Walks prog w A I fp [I] n P St)
    (Led : σ → List (Addr × Obj)) (ps : σ → List (Str × Value)) (stored : List Str) (Inv : Nat → σ → Prop) (c₀ : σ)
    (hgo : ∀ i v (s' : Shared) (Q' : Unit → Shared → Prop) (E' : Value → Shared → Prop), P i v → St (i + 1) s'.heap → Q' () s' → wpAny (model prog w) A (letOwnedTupleGo target (.ref I) v) Q' E' s')
    (hfp : ∀ b ∈ fp, b ≠ I → ∃ o, ∀ c, (b, o) ∈ Led c) (hob : ∀ i h, St i h → ∃ o, h.get? I = some o) (hIL : I ≠ env.locals) (hI0 : h₀.get? I = none) (hI : ∀ p ∈ Led c₀, p.1 ≠ I)
    (hst : St 0 s.heap) (F : Fr h₀ env.locals s.heap m₀) (N : News h₀ env.locals s.heap (Led c₀)) (hk : ∀ p ∈ ps c₀, m₀ p.1 = some p.2) (hp : Inv 0 c₀)
    (turn : ∀ i v (c : σ) (u : Str → Option Value) h tk o, i < n → P i v → Inv i c → (∀ p ∈ Led c, p.1 ≠ I) → Fr h₀ env.locals h (kstB (fun z => if stored.contains z then u z else m₀ z) (ps c)) → News h₀ env.locals h ((I, o) :: Led c) →
      wpAny (model prog w) A (assign target env v) (fun _ s₂ => wpAny (model prog w) A (execs body env) (FwPost h₀ env.locals { s with heap := h, toks := tk } I o Led ps stored m₀ (Inv (i + 1)) Q) E s₂) E { s with heap := h, toks := tk })
    (done : ∀ (c : σ) (u : Str → Option Value) h tk, Inv n c → Fr h₀ env.locals h (kstB (fun z => if stored.contains z then u z else m₀ z) (ps c)) → News h₀ env.locals h (Led c) → Q .next { s with heap := h, toks := tk })
    (hE : PassesOwn (model prog w) A env E := by passes_own) : ForAt prog w A env target body Q E (.ref I) s := by
  refine codeAny_forLoop_any (fun k s' => ∃ (c : σ) (h' : Heap) (tk : Nat) (m' : Str → Option Value) (i : Nat), s' = { s with heap := h', toks := tk } ∧ St i h' ∧ Fr h₀ env.locals h' m' ∧ News h₀ env.locals h' (Led c) ∧ (∀ p ∈ Led c, p.1 ≠ I) ∧ (∀ p ∈ ps c, m' p.1 = some p.2) ∧ (∀ z, (∀ p ∈ ps c, z ≠ p.1) → stored.contains z = false → m' z = m₀ z) ∧ Inv i c ∧ i ≤ n ∧ k = n + 1 - i) ?_ (n + 1)
    ⟨c₀, s.heap, s.toks, m₀, 0, rfl, hst, F, N, hI, hk, fun _ _ _ => rfl, hp, Nat.zero_le _, rfl⟩
  rintro k s' ⟨c, h', tk, m', i, rfl, hst', F', N', hI', hk', hr', hJ, hi, rfl⟩
  have keepF : ∀ h₁ : Heap, (∀ b o, b ∉ [I] → h'.get? b = some o → h₁.get? b = some o) → Fr h₀ env.locals h₁ m' ∧ News h₀ env.locals h₁ (Led c) := fun h₁ hk₁ =>
    ⟨⟨F'.ns.at' fun o e => hk₁ _ o (fun q => hIL (List.mem_singleton.mp q).symm) e, fun b o e => hk₁ b o (fun q => by rw [List.mem_singleton.mp q, hI0] at e; cases e) (F'.keep b o e), F'.above⟩, fun p hp => ⟨hk₁ _ _ (fun q => hI' p hp (List.mem_singleton.mp q)) (N' p hp).1, (N' p hp).2⟩⟩
  by_cases hlt : i < n
  · refine W.item i _ _ _ hlt hst' fun v h₁ tk₁ hP hst₁ hk₁ => ?_
    obtain ⟨F₁, N₁⟩ := keepF h₁ hk₁
    obtain ⟨o, ho⟩ := hob _ _ hst₁
    have N₂ : News h₀ env.locals h₁ ((I, o) :: Led c) := fun p hp => by
      rcases List.mem_cons.mp hp with rfl | hp
      · exact ⟨ho, hIL, hI0⟩
      · exact N₁ p hp
    refine hgo i v _ _ _ hP hst₁ ?_
    refine wpAny_mono (turn i v c m' h₁ tk₁ o hlt hP hJ hI' (ksw_fr hk' hr' F₁) N₂) (fun _ s₂ h₂ => ?_) hE
    refine wpAny_mono h₂ (fun f s₃ h₃ => ?_) hE
    have fin : FwEnd h₀ env.locals { s with heap := h₁, toks := tk₁ } I o Led ps stored m₀ (Inv (i + 1)) s₃ → ∃ m, m < n + 1 - i ∧ ∃ (c : σ) (h' : Heap) (tk : Nat) (m' : Str → Option Value) (i : Nat), s₃ = { s with heap := h', toks := tk } ∧ St i h' ∧ Fr h₀ env.locals h' m' ∧ News h₀ env.locals h' (Led c) ∧ (∀ p ∈ Led c, p.1 ≠ I) ∧ (∀ p ∈ ps c, m' p.1 = some p.2) ∧ (∀ z, (∀ p ∈ ps c, z ≠ p.1) → stored.contains z = false → m' z = m₀ z) ∧ Inv i c ∧ i ≤ n ∧ m = n + 1 - i := by
      rintro ⟨c', h₃', tk₃, m₃, news₃, rfl, F₃, N₃, hI₃, hn₃, hne₃, hk₃, hr₃, hJ₃⟩
      refine ⟨n + 1 - (i + 1), by omega, c', h₃', tk₃, m₃, i + 1, rfl, ?_, F₃, fun p hp => N₃ p (hn₃ p hp), hne₃, hk₃, hr₃, hJ₃, hlt, rfl⟩
      refine W.frame _ _ _ hst₁ fun b hb ob e => ?_
      by_cases hbI : b = I
      · subst hbI
        rw [ho] at e
        rw [← Option.some.inj e]
        exact (N₃ _ hI₃).1
      · obtain ⟨o', ho'⟩ := hfp b hb hbI
        have e1 := (N₁ _ (ho' c)).1
        rw [e] at e1
        rw [Option.some.inj e1]
        exact (N₃ _ (hn₃ _ (ho' c'))).1
    cases f with
    | ret v => exact h₃
    | brk => exact h₃
    | next => exact fin h₃
    | cont => exact fin h₃
  · have hin : i = n := by omega
    subst hin
    refine W.done _ _ _ hst' fun h₁ tk₁ hk₁ => wpAny_execs_nil ?_
    obtain ⟨F₁, N₁⟩ := keepF h₁ hk₁
    exact done c m' h₁ tk₁ hJ (ksw_fr hk' hr' F₁) N₁
theorem next_new {m : Str → Option Value} (F : Fr h₀ env.locals s.heap m) : h₀.get? s.heap.objs.size = none := by
  cases hq : h₀.get? s.heap.objs.size with
  | none => rfl
  | some o' => exact absurd (Heap.lt_size (F.keep _ _ hq)) (Nat.lt_irrefl _)
/-- a for over a made list that stays, by a state of one's own -/
theorem iter_list {σ : Type} {target : PySem.Expr} {body : List Stmt} {l : Addr} {xs : List Value} {kx : Nat} {m₀ : Str → Option Value} (Led : σ → List (Addr × Obj)) (ps : σ → List (Str × Value)) (stored : List Str) (Inv : Nat → σ → Prop) (c₀ : σ)
    (htar : (∃ x p, target = .Name x p) ∨ ((∃ es k p, target = .Tuple es k p) ∧ ∀ v ∈ xs, ∃ a, v = .ref a))
    (hh : A.handled = none) (hl : ∀ c, (l, W.listOf xs.toArray kx) ∈ Led c) (F : Fr h₀ env.locals s.heap m₀) (N : News h₀ env.locals s.heap (Led c₀)) (hk : ∀ p ∈ ps c₀, m₀ p.1 = some p.2) (hp : Inv 0 c₀)
    (turn : ∀ i v (c : σ) (u : Str → Option Value) h tk I o, xs[i]? = some v → Inv i c → (∀ p ∈ Led c, p.1 ≠ I) → Fr h₀ env.locals h (kstB (fun z => if stored.contains z then u z else m₀ z) (ps c)) → News h₀ env.locals h ((I, o) :: Led c) →
      wpAny (model prog w) A (assign target env v) (fun _ s₂ => wpAny (model prog w) A (execs body env) (FwPost h₀ env.locals { s with heap := h, toks := tk } I o Led ps stored m₀ (Inv (i + 1)) Q) E s₂) E { s with heap := h, toks := tk })
    (done : ∀ (c : σ) (u : Str → Option Value) h tk, Inv xs.length c → Fr h₀ env.locals h (kstB (fun z => if stored.contains z then u z else m₀ z) (ps c)) → News h₀ env.locals h (Led c) → Q .next { s with heap := h, toks := tk })
    (hE : PassesOwn (model prog w) A env E := by passes_own) : wpAny (model prog w) A (pyIter (.ref l)) (fun it s₂ => ForAt prog w A env target body Q E it s₂) E s := by
  have hol := (N _ (hl c₀)).1
  have hls : s.heap.IsList l xs.toArray := ⟨_, hol, rfl, kx, rfl⟩
  have hne : l ≠ s.heap.objs.size := Nat.ne_of_lt (Heap.lt_size hol)
  refine wpAny_pyIter_list hls ?_
  have W := Walks.list (prog := prog) (w := w) hh s.heap.objs.size l hne xs.toArray
  have hsz : xs.toArray.size = xs.length := by simp
  rw [hsz] at W
  refine for_walk W Led ps stored Inv c₀ ?_ ?_ ?_ ?_ (next_new F) ?_ ⟨⟨_, Heap.get?_push_size _ rfl, rfl, rfl⟩, hls.at fun o e => Heap.get?_push_of_some _ e⟩ (F.push _) (fun p hp => ⟨Heap.get?_push_of_some _ (N p hp).1, (N p hp).2⟩) hk hp ?_ ?_ hE
  · intro i v s' Q' E' hP hS hQ
    rcases htar with ⟨x, p, rfl⟩ | ⟨⟨es, k, p, rfl⟩, hv⟩
    · exact wpAny_of_eq (a := ()) rfl hQ
    · obtain ⟨a, rfl⟩ := hv v (by have h9 : xs[i]? = some v := by simpa using hP
                                  exact List.mem_of_getElem? h9)
      exact wpAny_letOwnedTupleGo_listiter hS.1 hQ
  · intro b hb hbI
    rcases List.mem_cons.mp hb with h | h
    · exact absurd h hbI
    · rw [List.mem_singleton.mp h]; exact ⟨_, hl⟩
  · rintro i h ⟨⟨o, ho, _⟩, _⟩
    exact ⟨o, ho⟩
  · exact Ne.symm (Nat.ne_of_lt F.ns.lt)
  · intro p hp
    exact Nat.ne_of_lt (Heap.lt_size (N p hp).1)
  · intro i v c u h tk o hi hP hJ hne' F' N'
    exact turn i v c u h tk _ o (by simpa using hP) hJ hne' F' N'
  · exact done
/-- a for over range(n), by a state of one's own -/
theorem iter_rng {σ : Type} {x : Str} {px : Pos} {body : List Stmt} {r : Addr} {b₀ : Int} {t₀ u₀ v₀ : Tok} {n : Nat} {m₀ : Str → Option Value} {news : List (Addr × Obj)} (Led : σ → List (Addr × Obj)) (ps : σ → List (Str × Value)) (stored : List Str) (Inv : Nat → σ → Prop) (c₀ : σ)
    (hh : A.handled = none) (hr : IsRange s.heap r 0 b₀ 1 t₀ u₀ v₀) (hsmall : Builtin.Range.small 0 b₀ 1 = true) (hsz : Builtin.Range.rangeSize 0 b₀ 1 = (n : Int)) (F : Fr h₀ env.locals s.heap m₀) (N : News h₀ env.locals s.heap (Led c₀)) (hk : ∀ p ∈ ps c₀, m₀ p.1 = some p.2) (hp : Inv 0 c₀)
    (turn : ∀ i v (c : σ) (u : Str → Option Value) h tk I o, i < n → Inv i c → (∀ p ∈ Led c, p.1 ≠ I) → Fr h₀ env.locals h (kstB (fun z => if stored.contains z then u z else m₀ z) (ps c)) → News h₀ env.locals h ((I, o) :: Led c) →
      wpAny (model prog w) A (assign (.Name x px) env v) (fun _ s₂ => wpAny (model prog w) A (execs body env) (FwPost h₀ env.locals { s with heap := h, toks := tk } I o Led ps stored m₀ (Inv (i + 1)) Q) E s₂) E { s with heap := h, toks := tk })
    (done : ∀ (c : σ) (u : Str → Option Value) h tk, Inv n c → Fr h₀ env.locals h (kstB (fun z => if stored.contains z then u z else m₀ z) (ps c)) → News h₀ env.locals h (Led c) → Q .next { s with heap := h, toks := tk })
    (hE : PassesOwn (model prog w) A env E := by passes_own) : wpAny (model prog w) A (pyIter (.ref r)) (fun it s₂ => ForAt prog w A env (.Name x px) body Q E it s₂) E s := by
  refine wpAny_pyIter_range hr hsmall ?_
  have W : Walks prog w A s.heap.objs.size [s.heap.objs.size] [s.heap.objs.size] n (fun i v => i < n ∧ ∃ t, v = .int (0 + i * 1) t)
      (fun i h => IsRangeIter h s.heap.objs.size (0 + (i : Nat) * 1) ((n : Int) - (i : Nat)) 1) := (Walks.range hh _ 0 1 n).bound
  refine for_walk W Led ps stored Inv c₀ ?_ ?_ ?_ ?_ (next_new F) ?_ (by show IsRangeIter _ _ _ _ _; rw [hsz]; simpa using Heap.get?_push_size _ rfl) (F.push _) (fun p hp => ⟨Heap.get?_push_of_some _ (N p hp).1, (N p hp).2⟩) hk hp ?_ ?_ hE
  · intro i v s' Q' E' hP hS hQ
    exact wpAny_of_eq (a := ()) rfl hQ
  · intro b hb hbI
    exact absurd (List.mem_singleton.mp hb) hbI
  · intro i h hS
    exact ⟨_, hS⟩
  · exact Ne.symm (Nat.ne_of_lt F.ns.lt)
  · intro p hp
    exact Nat.ne_of_lt (Heap.lt_size (N p hp).1)
  · intro i v c u h tk o hi hP hJ hne' F' N'
    exact turn i v c u h tk _ o hi hJ hne' F' N'
  · exact done
end
theorem mem_appL {α : Type} {a : α} {s t : List α} (h : a ∈ s) : List.Mem a (s ++ t) := List.mem_append_left _ h
theorem mem_appR {α : Type} {a : α} {s t : List α} (h : a ∈ t) : List.Mem a (s ++ t) := List.mem_append_right _ h
local macro_rules | `(tactic| k_mem) => `(tactic| first | assumption | ((with_reducible first | refine mem_appL ?_ | refine List.mem_append_left _ ?_); k_mem) | ((with_reducible first | refine mem_appR ?_ | refine List.mem_append_right _ ?_); k_mem) | fail "no")
local macro_rules | `(tactic| walk_at "FwPost") => `(tactic| (dsimp only [FwPost]))
theorem off_10 : True := by
  w_top off
  trivial
/-- a row of the law's own: a name, its lines -/
abbrev RowL := List UInt8 × List (List UInt8)
def RowLIn (nx : List (Addr × Obj)) (v : Value) (r : RowL) : Prop :=
  ∃ t u n lv lvs lk, v = .ref t ∧ (t, tupOf [.bytes r.1.toArray u, .ref lv] n) ∈ nx ∧ (lv, W.listOf lvs.toArray lk) ∈ nx ∧ All2 BytesIs lvs r.2
theorem RowLIn.mono {nx ny : List (Addr × Obj)} {v : Value} {r : RowL} (h : RowLIn nx v r) (s : ∀ p ∈ nx, p ∈ ny) : RowLIn ny v r := by
  obtain ⟨t, u, n, lv, lvs, lk, e, h1, h2, h3⟩ := h
  exact ⟨t, u, n, lv, lvs, lk, e, s _ h1, s _ h2, h3⟩
/-- a span: a name and two ints -/
abbrev SpanD := List UInt8 × Int × Int
def SpanIn (nx : List (Addr × Obj)) (v : Value) (r : SpanD) : Prop :=
  ∃ t n u tb te, v = .ref t ∧ (t, tupOf [.bytes r.1.toArray u, .int r.2.1 tb, .int r.2.2 te] n) ∈ nx
theorem SpanIn.mono {nx ny : List (Addr × Obj)} {v : Value} {r : SpanD} (h : SpanIn nx v r) (s : ∀ p ∈ nx, p ∈ ny) : SpanIn ny v r := by
  obtain ⟨t, n, u, tb, te, e, h1⟩ := h
  exact ⟨t, n, u, tb, te, e, s _ h1⟩
def addLine (ends : List (List UInt8)) (o l : List UInt8) : List UInt8 := o ++ l ++ ends.getD (o.length % ends.length) []
def layRow (ends : List (List UInt8)) (o : List UInt8) (r : RowL) : List UInt8 := r.2.foldl (addLine ends) (o ++ r.1 ++ [58])
def layStep (ends : List (List UInt8)) (x : List UInt8 × List SpanD) (r : RowL) : List UInt8 × List SpanD := (layRow ends x.1 r, x.2 ++ [(r.1, (x.1.length : Int), ((layRow ends x.1 r).length : Int))])
/-- what _law_laid gives -/
def laid (ends : List (List UInt8)) (rows : List RowL) : List UInt8 × List SpanD := rows.foldl (layStep ends) ([], [])
structure LDd where
  rows : List RowL
  ends : List (List UInt8)
def rowBulk (r : RowL) : Nat := r.1.length + 1 + (r.2.map fun l => l.length + 2).sum
def bulk (rows : List RowL) : Nat := (rows.map rowBulk).sum
abbrev laidT : ToldN LDd where
  Rel := fun nx vs d => ∃ a b xs k es n, vs = [.ref a, .ref b] ∧ (a, W.listOf xs.toArray k) ∈ nx ∧ All2 (RowLIn nx) xs d.rows ∧ (b, tupOf es n) ∈ nx ∧ All2 BytesIs es d.ends
  Ok := fun d => bulk d.rows ≤ 50000 ∧ 1 ≤ d.ends.length ∧ d.ends.length ≤ 3 ∧ (∀ e ∈ d.ends, e.length ≤ 2)
  size := fun _ => 1
  Tl := fun _ => True
  Out := fun nx v d => ∃ tp u sv svs k n, v = .ref tp ∧ (tp, tupOf [.bytes (laid d.ends d.rows).1.toArray u, .ref sv] n) ∈ nx ∧ (sv, W.listOf svs.toArray k) ∈ nx ∧ All2 (SpanIn nx) svs (laid d.ends d.rows).2
section
variable {prog : Program} {w : World} {A : Around} {E : Value → Shared → Prop} {s : Shared} {h₀ : Heap} {L a : Addr} {news : List (Addr × Obj)} {es : List Value} {ends : List (List UInt8)} {n : Nat} {k : Int} {u : Tok} {Q : Value → Shared → Prop} {value slice : PySem.Expr}
theorem lenTup_L (N : News h₀ L s.heap news) (hm : (a, tupOf es n) ∈ news) (hes : All2 BytesIs es ends) (hz : ends.length ≤ 1000) (h : ∀ t' k, Q (.int (ends.length : Nat) t') { s with toks := k }) :
    wpAny (model prog w) A (call (.builtin "len") [.ref a]) Q E s := by
  have hl := hes.length
  refine PyProof.Rows.len_tuple (N.isTup hm) (by rw [List.size_toArray]; omega) ?_
  rw [List.size_toArray, hl]
  exact h _ _
theorem itemTup_L (N : News h₀ L s.heap news) (hm : (a, tupOf es n) ∈ news) (hes : All2 BytesIs es ends) (hz : ends.length ≤ 1000) (h0 : 0 ≤ k) (h1 : k < (ends.length : Int)) (h : ∀ t, Q (.bytes (ends.getD k.toNat []).toArray t) s)
    (hs : subscripted slice false (.ref a) (.int k u) = operate [.ref a, .int k u] (getItem (.ref a) (.int k u)) := by with_unfolding_all rfl) :
    wpAny (model prog w) A (subscriptTail value slice (.ref a) (.int k u)) Q E s := by
  have hl := hes.length
  have hk : k.toNat < es.length := by omega
  obtain ⟨t, ht⟩ := hes.get hk
  refine item_tupleT (j := k.toNat) (N.isTup hm) (by omega) (by omega) ?_ (List.getElem?_eq_getElem hk) ?_ hs
  · have h2 : ¬ k < 0 := by omega
    have h3 : k < (es.length : Int) := by omega
    simp [seqIndex?, h2, h0, h3]
  · rw [ht]
    have e : ends.getD k.toNat [] = ends[k.toNat]'(by omega) := by
      rw [List.getD_eq_getElem?_getD, List.getElem?_eq_getElem (by omega)]; rfl
    rw [← e]
    exact h t
end
theorem getD_le2 {ends : List (List UInt8)} (h : ∀ e ∈ ends, e.length ≤ 2) (n : Nat) : (ends.getD n []).length ≤ 2 := by
  rw [List.getD_eq_getElem?_getD]
  cases he : ends[n]? with
  | none => simp
  | some e => exact h e (List.mem_of_getElem? he)
theorem fmod_nat (a b : Nat) : (Int.fmod (a : Int) (b : Int)).toNat = a % b := by
  rw [Int.fmod_eq_emod_of_nonneg _ (by omega)]
  omega
theorem name_two {P : Prop} {g h : Heap} {L a b : Addr} {o o' : Obj} {news : List (Addr × Obj)} (_ : News g L h ((a, o) :: (b, o') :: news)) (k : ∀ r s, r = a → s = b → P) : P := k a b rfl rfl
theorem news_swap {g h : Heap} {L : Addr} {p q : Addr × Obj} {news : List (Addr × Obj)} (N : News g L h (p :: q :: news)) : News g L h (q :: (news ++ [p])) := fun x hx => N x (by
  rcases List.mem_cons.mp hx with rfl | hx
  · exact .tail _ (.head _)
  · rcases List.mem_append.mp hx with hx | hx
    · exact .tail _ (.tail _ hx)
    · rw [List.mem_singleton.mp hx]; exact .head _)
theorem All2.mem {α : Type} {R : Value → α → Prop} {vs : List Value} {ds : List α} (h : All2 R vs ds) : ∀ v ∈ vs, ∃ d, d ∈ ds ∧ R v d := by
  induction h with
  | nil => intro v hv; cases hv
  | @cons v0 vs d0 ds h r ih =>
    intro v hv
    rcases List.mem_cons.mp hv with rfl | hv
    · exact ⟨d0, .head _, h⟩
    · obtain ⟨d, hd, hR⟩ := ih v hv
      exact ⟨d, .tail _ hd, hR⟩
theorem bulk_take {rows : List RowL} {i : Nat} (hi : i < rows.length) : bulk (rows.take (i + 1)) = bulk (rows.take i) + rowBulk (rows[i]'hi) := by
  unfold bulk
  rw [List.take_add_one, List.getElem?_eq_getElem hi, List.map_append, List.sum_append]
  simp
theorem bulk_le (rows : List RowL) (i : Nat) : bulk (rows.take i) ≤ bulk rows := by
  have h : bulk rows = bulk (rows.take i) + bulk (rows.drop i) := by
    unfold bulk
    rw [← List.sum_append, ← List.map_append, List.take_append_drop]
  omega
theorem length_le_bulk : ∀ rows : List RowL, rows.length ≤ bulk rows
  | [] => Nat.zero_le _
  | r :: rows => by
    have h := length_le_bulk rows
    have h2 : 1 ≤ rowBulk r := by unfold rowBulk; omega
    unfold bulk at h ⊢
    rw [List.map_cons, List.sum_cons, List.length_cons]
    omega
structure LoopL where
  o : List UInt8
  ot : Tok
  vs : List Value
  k : Nat
  tl : List (Addr × Obj)
  sp : List SpanD
structure LoopO where
  o : List UInt8
  ot : Tok
theorem laid_ret {d : LDd} {h₀ : Heap} {L : Addr} {m : Str → Option Value} {news : List (Addr × Obj)} {s : Shared} {Q : Value → Shared → Prop}
    (hret : ∀ r tl h' tk', Fr h₀ L h' m → News h₀ L h' (news ++ tl) → Apart news tl → laidT.Out tl r d → Q r { s with heap := h', toks := tk' })
    {heap : Heap} {tk : Nat} {D sv : Addr} {n k : Nat} {u : Tok} {vs : List Value} {tl : List (Addr × Obj)} {o : List UInt8} {sp : List SpanD}
    (kF : Fr h₀ L heap m) (kN : News h₀ L heap ((D, tupOf [.bytes o.toArray u, .ref sv] n) :: (sv, W.listOf vs.toArray k) :: (news ++ tl))) (h1 : ∀ p ∈ news, p.1 < sv) (h2 : sv < D) (h3 : ∀ p ∈ tl, sv < p.1)
    (hL : (o, sp) = laid d.ends d.rows) (hA : All2 (SpanIn tl) vs sp) : Q (.ref D) { s with heap := heap, toks := tk } := by
  refine hret _ _ _ _ kF (news_perm2 kN) (Apart.of_lt ?_) ⟨D, u, sv, vs, k, n, rfl, ?_, .tail _ (.head _), ?_⟩
  · intro q hq p hp
    have h9 := h1 q hq
    rcases List.mem_cons.mp hp with rfl | hp
    · exact Nat.lt_trans h9 h2
    · rcases List.mem_cons.mp hp with rfl | hp
      · exact h9
      · exact Nat.lt_trans h9 (h3 p hp)
  · rw [← hL]; exact .head _
  · rw [← hL]; exact hA.mono fun _ _ h => h.mono fun _ hp => .tail _ (.tail _ hp)
theorem laid_end {g h' : Heap} {L' sv D I : Addr} {s₁ : Shared} {oI : Obj} {m₀ m' : Str → Option Value} {news tl : List (Addr × Obj)} {tk n k i : Nat} {vs : List Value} {o o2 : List UInt8} {sp : List SpanD} {rows : List RowL} {row : RowL} {ends : List (List UInt8)} {u tb te ot2 : Tok} {stored : List Str}
    (F' : Fr g L' h' m') (N' : News g L' h' ((D, tupOf [.bytes row.1.toArray u, .int (o.length : Nat) tb, .int (o2.length : Nat) te] n) :: (I, oI) :: (sv, W.listOf (vs.toArray.push (.ref D)) (k + 1)) :: (news ++ tl)))
    (hD : I < D ∧ sv < D) (hne : ∀ p ∈ (sv, W.listOf vs.toArray k) :: (news ++ tl), p.1 ≠ I) (hvs : All2 (SpanIn tl) vs sp) (htl : ∀ p ∈ tl, sv < p.1) (hlay : (o, sp) = (rows.take i).foldl (layStep ends) ([], []))
    (hbt : o2.length ≤ bulk (rows.take (i + 1))) (hrow : rows[i]? = some row) (hj1 : o2 = row.2.foldl (addLine ends) (o ++ row.1 ++ [58])) (hlen : vs.length = i)
    (hk : m' (Str.ofString "octets") = some (.bytes o2.toArray ot2)) (hr : ∀ z, (∀ p ∈ [(Str.ofString "octets", Value.bytes o2.toArray ot2)], z ≠ p.1) → stored.contains z = false → m' z = m₀ z) :
    FwEnd g L' s₁ I oI (fun (c : LoopL) => (sv, W.listOf c.vs.toArray c.k) :: (news ++ c.tl)) (fun (c : LoopL) => [(Str.ofString "octets", .bytes c.o.toArray c.ot)]) stored m₀
      (fun (c : LoopL) => All2 (SpanIn c.tl) c.vs c.sp ∧ (∀ p ∈ c.tl, sv < p.1) ∧ (c.o, c.sp) = (rows.take (i + 1)).foldl (layStep ends) ([], []) ∧ c.o.length ≤ bulk (rows.take (i + 1)) ∧ c.vs.length = i + 1) { s₁ with heap := h', toks := tk } := by
  rw [push_list] at N'
  refine fw_end (⟨o2, ot2, vs ++ [.ref D], k + 1, (D, tupOf [.bytes row.1.toArray u, .int (o.length : Nat) tb, .int (o2.length : Nat) te] n) :: tl, sp ++ [(row.1, (o.length : Int), (o2.length : Int))]⟩ : LoopL) F' N' (.tail _ (.head _)) ?_ ?_ (List.forall_mem_cons.mpr ⟨hk, List.forall_mem_nil _⟩) hr ⟨?_, ?_, ?_, hbt, ?_⟩
  · dsimp only
    intro p hp
    simp only [List.mem_cons, List.mem_append] at hp ⊢
    rcases hp with h | h | h | h <;> simp [h]
  · dsimp only
    intro p hp
    rcases List.mem_cons.mp hp with rfl | hp
    · exact hne (sv, W.listOf vs.toArray k) (.head _)
    · rcases List.mem_append.mp hp with hp | hp
      · exact hne p (.tail _ (List.mem_append_left _ hp))
      · rcases List.mem_cons.mp hp with rfl | hp
        · exact Ne.symm (Nat.ne_of_lt hD.1)
        · exact hne p (.tail _ (List.mem_append_right _ hp))
  · exact All2.snoc ⟨D, n, u, tb, te, rfl, .head _⟩ (hvs.mono fun _ _ h => h.mono fun p hp => .tail _ hp)
  · intro p hp
    rcases List.mem_cons.mp hp with rfl | hp
    · exact hD.2
    · exact htl p hp
  · dsimp only
    rw [List.take_add_one, hrow, List.foldl_append, ← hlay]
    show _ = (layRow ends o row, sp ++ [(row.1, (o.length : Int), ((layRow ends o row).length : Int))])
    have e : layRow ends o row = o2 := hj1.symm
    rw [e]
  · dsimp only
    rw [List.length_append, hlen]; rfl
theorem Stop.iter {prog : Program} {w : World} {A : Around} {E : Value → Shared → Prop} {s : Shared} {env : Env} {r : Addr} {tg : PySem.Expr} {body : List Stmt} {Q : Flow → Shared → Prop} (h : Stop (wpAny (model prog w) A (pyIter (.ref r)) (fun it s₂ => ForAt prog w A env tg body Q E it s₂) E s)) :
    wpAny (model prog w) A (pyIter (.ref r)) (fun it s₂ => ForAt prog w A env tg body Q E it s₂) E s := h
local macro_rules | `(tactic| walk_at "call builtin:len") => `(tactic| (k_here; (with_reducible show wpAny _ _ (call _ [Value.ref _]) _ _ _); k_dflt (refine' lenTup_L (by k_asm) (by k_mem) (by assumption) (by omega) ?_); k_whole; intro _ _))
local macro_rules | `(tactic| walk_at "subscriptTail") => `(tactic| (k_here; (with_reducible show wpAny _ _ (subscriptTail _ _ (Value.ref _) (Value.int _ _)) _ _ _); k_dflt (refine' itemTup_L (by k_asm) (by k_mem) (by assumption) (by omega) (by walk_at "m:mod") (by walk_at "m:mod") ?_); k_whole; intro _))
local macro_rules | `(tactic| walk_at "m:mod") => `(tactic| first | omega | exact fmod_lo _ (by omega) | exact fmod_hi _ (by omega))
local macro_rules | `(tactic| walk_at "exec For Tuple Name cons nil") => `(tactic| (refine For_at ?_))
local macro_rules | `(tactic| walk_at "exec For Name Name cons nil") => `(tactic| (refine For_at ?_))
local macro_rules | `(tactic| walk_at "pyIter ref") => `(tactic| (refine Stop.iter ?_))
theorem laid_ok {prog : Program} {w : World} {mean mg mb} (d : LDd) : TellsT prog w (hd.heap_39 w.params) hd.view_39 (looseW hd.view_39 [Str.ofString "read_spans"]) mean mg mb 114 laidT d := by
  unfold TellsT
  intro dp un gd cn cs a ccd cl outer A₀ base h₀ L m news s vs Q E B F X N T hk hR hok hd hu hret
  obtain ⟨ra, ea, xs, kx, es, ne, rfl, hra, hxs, hea, hes⟩ := hR
  obtain ⟨rows, ends⟩ := d
  dsimp only at hd hu hok hxs hes
  refine wpAny_call ?_
  k_dflt ktr_enter
  k_steps
  refine Stop.into ?_
  rename Fr _ _ _ _ => lF'
  rename News _ _ _ _ => lN'
  refine name_two lN' fun D sv hD hsv => ?_
  subst hD hsv
  rename ∀ p ∈ news, _ => lL'
  have hDsv : sv < D := ltN (by omega)
  with_unfolding_all
    refine' iter_list (σ := LoopL) (fun c => (sv, W.listOf c.vs.toArray c.k) :: (news ++ c.tl)) (fun c => [(Str.ofString "octets", .bytes c.o.toArray c.ot)]) [Str.ofString "name", Str.ofString "lines", Str.ofString "begun", Str.ofString "line"]
      (fun i c => All2 (SpanIn c.tl) c.vs c.sp ∧ (∀ p ∈ c.tl, sv < p.1) ∧ (c.o, c.sp) = (rows.take i).foldl (layStep ends) ([], []) ∧ c.o.length ≤ bulk (rows.take i) ∧ c.vs.length = i) ⟨[], _, [], 0, [(D, _)], []⟩
      (.inr ⟨⟨_, _, _, rfl⟩, fun v hv => ?_⟩) rfl (fun c => List.mem_cons_of_mem _ (List.mem_append_left _ hra)) lF' (news_swap lN') (List.forall_mem_cons.mpr ⟨rfl, List.forall_mem_nil _⟩) ⟨All2.nil, List.forall_mem_cons.mpr ⟨hDsv, List.forall_mem_nil _⟩, rfl, Nat.zero_le _, rfl⟩ ?_ ?_
  · obtain ⟨d, _, h⟩ := hxs.mem v hv
    obtain ⟨t, _, _, _, _, _, e, _⟩ := h
    exact ⟨t, e⟩
  · rintro i v ⟨o, ot, vs, k, tl, sp⟩ u h1 tk1 I oI hv ⟨hvs, htl, hlay, hbulk, hlen⟩ hne F' N'
    dsimp only [kstB] at *
    dsimp only [envOf] at F' N'
    clear lF' lN'
    obtain ⟨hi, hvi⟩ := List.getElem?_eq_some_iff.mp hv
    have hi' : i < rows.length := by rw [← hxs.length]; exact hi
    have hrow := hxs.get hi
    rw [hvi] at hrow
    have hbt := bulk_take hi'
    have hble := bulk_le rows (i + 1)
    have hlb := length_le_bulk rows
    generalize hr : rows[i] = row at hrow hbt
    obtain ⟨t, u', n', lv, lvs, lk, rfl, hm1, hm2, hA⟩ := hrow
    have hrb : rowBulk row = row.1.length + 1 + (row.2.map fun l => l.length + 2).sum := rfl
    refine (show wpAny _ _ _ _ _ _ from ?_)
    k_fold
    k_steps
    refine Stop.into ?_
    rename Fr _ _ _ _ => lF'
    rename News _ _ _ _ => lN'
    with_unfolding_all
      refine' iter_list (σ := LoopO) (fun c => (I, oI) :: (sv, W.listOf vs.toArray k) :: (news ++ tl)) (fun c => [(Str.ofString "octets", .bytes c.o.toArray c.ot)]) [Str.ofString "line"]
        (fun j c => c.o = (row.2.take j).foldl (addLine ends) (o ++ row.1 ++ [58]) ∧ c.o.length ≤ o.length + row.1.length + 1 + ((row.2.take j).map fun l => l.length + 2).sum) ⟨o ++ row.1 ++ [58], _⟩
        (.inl ⟨_, _, rfl⟩) rfl (fun c => List.mem_cons_of_mem _ (List.mem_cons_of_mem _ (List.mem_append_left _ hm2))) lF' lN' (List.forall_mem_cons.mpr ⟨rfl, List.forall_mem_nil _⟩) ⟨rfl, by simp only [List.length_append, List.length_cons, List.length_nil]; omega⟩ ?_ ?_
    · rintro j v ⟨o2, ot2⟩ u2 h2 tk2 I2 oI2 hv2 ⟨hj1, hj2⟩ hne2 F' N'
      dsimp only [kstB] at *
      dsimp only [envOf] at F' N'
      clear lF' lN'
      obtain ⟨hj, hvj⟩ := List.getElem?_eq_some_iff.mp hv2
      have hjl : j < row.2.length := by rw [← hA.length]; exact hj
      obtain ⟨tl2, htl2⟩ := hA.get hj
      rw [hvj] at htl2
      have hsum : ((row.2.take (j + 1)).map fun l => l.length + 2).sum = ((row.2.take j).map fun l => l.length + 2).sum + ((row.2[j]).length + 2) := by
        rw [List.take_add_one, List.getElem?_eq_getElem hjl, List.map_append, List.sum_append]
        simp
      have hsle : ((row.2.take (j + 1)).map fun l => l.length + 2).sum ≤ (row.2.map fun l => l.length + 2).sum := by
        have e : (row.2.map fun l => l.length + 2).sum = ((row.2.take (j + 1)).map fun l => l.length + 2).sum + ((row.2.drop (j + 1)).map fun l => l.length + 2).sum := by
          rw [← List.sum_append, ← List.map_append, List.take_append_drop]
        omega
      subst htl2
      have hE2 := getD_le2 hok.2.2.2 (Int.fmod (o2.length : Int) (ends.length : Int)).toNat
      have hEq := fmod_nat o2.length ends.length
      refine (show wpAny _ _ _ _ _ _ from ?_)
      k_fold
      k_steps
      refine fw_end (⟨_, _⟩ : LoopO) (by assumption) (by assumption) (List.mem_cons_self ..) (fun p hp => List.mem_cons_of_mem _ hp) hne2 (List.forall_mem_cons.mpr ⟨rfl, List.forall_mem_nil _⟩) (by ksw_same) ⟨?_, ?_⟩
      · dsimp only
        rw [List.take_add_one, List.getElem?_eq_getElem hjl, List.foldl_append, ← hj1, hEq]
        rfl
      · dsimp only
        simp only [List.length_append]
        omega
    · rintro ⟨o2, ot2⟩ u2 h2 tk2 ⟨hj1, hj2⟩ F' N'
      dsimp only [kstB] at *
      dsimp only [envOf] at F' N'
      clear lF' lN'
      rw [hA.length, List.take_length] at hj1 hj2
      have hoff : OwnOff (news ++ tl) [sv] := by
        intro p hp b hb
        rw [List.mem_singleton.mp hb]
        rcases List.mem_append.mp hp with hp | hp
        · exact Nat.ne_of_lt (lL' p hp)
        · exact Nat.ne_of_gt (htl p hp)
      have hIs : @Ne Nat sv I := hne _ (List.mem_cons_self ..)
      have hvs1 : vs.length + 1 ≤ 16777216 := by omega
      try k_fold
      k_steps
      exact laid_end (by assumption) (by assumption) ⟨ltN (by omega), ltN (by omega)⟩ hne hvs htl hlay (by omega) (by rw [List.getElem?_eq_getElem hi', hr]) hj1 hlen rfl (by ksw_same)
  · rintro ⟨o, ot, vs, k, tl, sp⟩ u h1 tk1 ⟨hvs, htl, hlay, hbulk, hlen⟩ F' N'
    dsimp only [kstB] at *
    dsimp only [envOf] at F' N'
    clear lF' lN'
    try k_fold
    k_steps
    rw [hxs.length, List.take_length] at hlay
    exact laid_ret (d := ⟨rows, ends⟩) hret (by k_asm) (by k_asm) lL' (ltN (by omega)) htl hlay hvs
theorem laid_rel {news : List (Addr × Obj)} {a b : Addr} {xs es : List Value} {k n : Nat} {rows : List RowL} {ends : List (List UInt8)} (h1 : (a, W.listOf xs.toArray k) ∈ news) (h2 : All2 (RowLIn news) xs rows) (h3 : (b, tupOf es n) ∈ news) (h4 : All2 BytesIs es ends) :
    laidT.Rel news [.ref a, .ref b] ⟨rows, ends⟩ := ⟨a, b, xs, k, es, n, rfl, h1, h2, h3, h4⟩
theorem off_11 : True := by
  w_top off
  trivial
theorem Apart.nil {news : List (Addr × Obj)} : Apart news [] := fun _ _ _ h => nomatch h
def CompTurn {D : Type} (G : List (Addr × Obj) → Value → D → Prop) (news tl : List (Addr × Obj)) (d : D) (y : Value) (news' : List (Addr × Obj)) : Prop :=
  ∃ tl', news' = news ++ tl' ∧ (∀ p ∈ tl, p ∈ tl') ∧ Apart news tl' ∧ G tl' y d
section
variable {prog : Program} {w : World} {A : Around} {h₀ : Heap} {L : Addr} {m : Str → Option Value} {env : Env} {elt : PySem.Expr} {x : Str} {scope : Scope} {cl : List (Str × Addr)} {s : Shared} {S : List (Addr × Obj) → Prop} {Fin : List Value → List (Addr × Obj) → Prop} {news : List (Addr × Obj)}
theorem comp_rest {D : Type} {xs : List Value} {ds : List D} (G : List (Addr × Obj) → Value → D → Prop) (hG : ∀ tl tl' y d, (∀ p ∈ tl, p ∈ tl') → G tl y d → G tl' y d) (hlen : xs.length = ds.length)
    (turn : ∀ (i : Nat) (hi : i < ds.length) v I oI C oC Da m₂ ys tl h tk (E' : Value → Shared → Prop), xs[i]? = some v → LCg.NsObj oC m₂ → m₂ x = some v → Fr h₀ L h m → News h₀ L h ((I, oI) :: (C, oC) :: (Da, LCg.lst ys) :: (news ++ tl)) → LCg.Off3 I C Da (news ++ tl) → ((@Ne Nat I C) ∧ (@Ne Nat I Da) ∧ (@Ne Nat C Da)) → Apart news tl →
      wpAny (model prog w) A (eval elt (compEnvC scope cl C env)) (LCg.CompEnd h₀ L m { s with heap := h, toks := tk } I oI C oC Da (LCg.lst ys) S (CompTurn G news tl (ds[i]'hi))) E' { s with heap := h, toks := tk })
    (fin : ∀ ys tl, All2 (G tl) ys ds → Apart news tl → Fin ys (news ++ tl)) : LCg.CompRest prog w A h₀ L m env elt x scope cl s S (fun i v => xs.toArray[i]? = some v) Fin xs.length 0 [] news := by
  have key : ∀ (j i : Nat) (ys : List Value) (tl : List (Addr × Obj)), i + j = xs.length → All2 (G tl) ys (ds.take i) → Apart news tl → LCg.CompRest prog w A h₀ L m env elt x scope cl s S (fun i v => xs.toArray[i]? = some v) Fin j i ys (news ++ tl) := by
    intro j
    induction j with
    | zero =>
      intro i ys tl hi hy ha
      rw [show i = ds.length by omega, List.take_length] at hy
      exact LCg.CompRest.zero (fin ys tl hy ha)
    | succ j ih =>
      intro i ys tl hi hy ha
      refine LCg.CompRest.succ ?_
      intro v I oI C oC Da m₂ h tk E' hv hC hx F N off ne
      have hv' : xs[i]? = some v := by simpa using hv
      refine wpAny_mono (turn i (by omega) v I oI C oC Da m₂ ys tl h tk E' hv' hC hx F N off ne ha) (fun y s₂ hq => ?_) fun _ _ e => e
      obtain ⟨h', tk', nw, e, F', N', off', hS, tl', rfl, hsub, ha', hg⟩ := hq
      refine ⟨h', tk', news ++ tl', e, F', N', off', hS, ?_⟩
      refine ih (i + 1) _ tl' (by omega) ?_ ha'
      have hi' : i < ds.length := by omega
      rw [List.take_add_one, List.getElem?_eq_getElem hi']
      exact All2.snoc hg (hy.mono fun _ _ h => hG _ _ _ _ hsub h)
  have h := key xs.length 0 [] [] (by omega) (by simp only [List.take_zero]; exact .nil) Apart.nil
  rw [List.append_nil] at h
  exact h
end
theorem comp_end {D : Type} {h₀ h' : Heap} {L I C Da D' : Addr} {m : Str → Option Value} {s₁ : Shared} {oI oC oD o : Obj} {S : List (Addr × Obj) → Prop} {G : List (Addr × Obj) → Value → D → Prop} {news tl : List (Addr × Obj)} {d : D} {y : Value} {tk : Nat}
    (F : Fr h₀ L h' m) (N : News h₀ L h' ((D', o) :: (I, oI) :: (C, oC) :: (Da, oD) :: (news ++ tl))) (lt : I < D' ∧ C < D' ∧ Da < D' ∧ AllLt D' (news ++ tl)) (off : LCg.Off3 I C Da (news ++ tl)) (ha : Apart news tl)
    (hS : S (news ++ ((D', o) :: tl))) (hG : G ((D', o) :: tl) y d) : LCg.CompEnd h₀ L m s₁ I oI C oC Da oD S (CompTurn G news tl d) y { s₁ with heap := h', toks := tk } := by
  have l2 := ktn_ltOf lt.2.2.2
  have ltne : ∀ {a b : Addr}, a < b → a ≠ b := fun h e => by subst e; exact absurd h (Nat.lt_irrefl _)
  refine LCg.CompEnd.intro F N (news ++ ((D', o) :: tl)) (fun p hp => ?_) (LCg.Off3.of fun p hp => ?_) hS ⟨(D', o) :: tl, rfl, fun p hp => List.mem_cons_of_mem _ hp, fun q hq p hp => ?_, hG⟩
  · rcases List.mem_cons.mp hp with rfl | hp
    · simp
    rcases List.mem_cons.mp hp with rfl | hp
    · simp
    rcases List.mem_cons.mp hp with rfl | hp
    · simp
    rcases List.mem_append.mp hp with hp | hp
    · simp [hp]
    · rcases List.mem_cons.mp hp with rfl | hp
      · simp
      · simp [hp]
  · rcases List.mem_append.mp hp with hp | hp
    · exact off.mem p (List.mem_append_left _ hp)
    · rcases List.mem_cons.mp hp with rfl | hp
      · exact ⟨(ltne lt.1).symm, (ltne lt.2.1).symm, (ltne lt.2.2.1).symm⟩
      · exact off.mem p (List.mem_append_right _ hp)
  · rcases List.mem_cons.mp hp with rfl | hp
    · exact ltne (l2 q (List.mem_append_left _ hq))
    · exact ha q hq p hp
theorem Off1_mem {D : Addr} {l : List (Addr × Obj)} (x : LCg.Off1 D l) : ∀ p ∈ l, p.1 ≠ D := by
  induction l with
  | nil => intro p hp; cases hp
  | cons q r ih =>
    intro p hp
    rcases List.mem_cons.mp hp with e | h
    · rw [e]; exact x.1
    · exact ih x.2 p h
theorem Apart.cons {news tl : List (Addr × Obj)} {D : Addr} {o : Obj} (h : Apart news tl) (off : LCg.Off1 D (news ++ tl)) : Apart news ((D, o) :: tl) := fun q hq p hp => by
  rcases List.mem_cons.mp hp with rfl | hp
  · exact Off1_mem off q (List.mem_append_left _ hq)
  · exact h q hq p hp
theorem All2.map {β γ : Type} {P : Value → γ → Prop} (f : β → γ) {xs : List Value} {ys : List β} (h : All2 (fun x y => P x (f y)) xs ys) : All2 P xs (ys.map f) := by
  induction h with
  | nil => exact .nil
  | cons a _ ih => exact .cons a ih
/-- what _law_seen gives of a row -/
def seenOf (d : RowD) : SpanD := (d.name, d.b, d.e)
structure SNd where
  rows : List RowD
abbrev seenT (w : World) : ToldN SNd where
  Rel := fun nx vs d => ∃ a xs k, vs = [.ref a] ∧ (a, W.listOf xs.toArray k) ∈ nx ∧ All2 (RowIn w nx) xs d.rows
  Ok := fun d => d.rows.length ≤ 50000
  size := fun _ => 1
  Tl := fun _ => True
  Out := fun nx v d => ∃ a xs k, v = .ref a ∧ (a, W.listOf xs.toArray k) ∈ nx ∧ All2 (SpanIn nx) xs (d.rows.map seenOf)
local macro_rules | `(tactic| walk_at "CompSrc") => `(tactic| (refine (show LCg.CompSrc _ _ _ _ _ _ _ _ (Str.ofString "row") _ _ _ _ _ from ?_); refine Stop.out ?_))
theorem seen_ok {prog : Program} {w : World} {mean mg mb} (d : SNd) : TellsT prog w (hd.heap_39 w.params) hd.view_39 (looseW hd.view_39 [Str.ofString "read_spans"]) mean mg mb 119 (seenT w) d := by
  unfold TellsT
  intro dp un gd cn cs a ccd cl outer A₀ base h₀ L m news s vs Q E B F X N T hk hR hok hd hu hret
  obtain ⟨ra, xs, kx, rfl, hra, hxs⟩ := hR
  obtain ⟨rows⟩ := d
  dsimp only at hd hu hok hxs
  refine wpAny_call ?_
  k_dflt ktr_enter
  k_steps
  refine Stop.into ?_
  rename Fr _ _ _ _ => lF'
  rename News _ _ _ _ => lN'
  refine LCg.CompSrc.ledger (by rfl) lF' lN' hra (by rw [List.size_toArray, hxs.length, sizeLine_eq]; omega) ?_
  intro g2
  rw [show xs.toArray.size = xs.length by simp]
  refine comp_rest (ds := rows) (fun tl y d => SpanIn tl y (seenOf d)) (fun _ _ _ _ h hg => hg.mono h) hxs.length ?_ ?_
  · intro i hi v I oI C oC Da m₂ ys tl h2 tk2 E' hv hC hx2 F' N' off ne ha
    clear lF' lN'
    obtain ⟨hi2, hvi⟩ := List.getElem?_eq_some_iff.mp hv
    have hrow := hxs.get hi2
    rw [hvi] at hrow
    generalize hrw : rows[i] = row at hrow ⊢
    obtain ⟨t, f, dx, n, k1, k2, u1, u2, tb, te, rfl, hm1, hm2, hm3⟩ := hrow
    refine (show wpAny _ _ _ _ _ _ from ?_)
    k_fold
    k_steps
    rename Fr _ _ _ _ => F'
    rename News _ _ _ _ => N'
    rename (_ < _ ∧ _ < _ ∧ _ < _ ∧ AllLt _ _) => l1
    refine (show LCg.CompEnd _ _ _ _ _ _ _ _ _ _ _ _ _ _ from comp_end F' N' l1 off ha (Or.inr ⟨_, List.mem_append_left _ hra, rfl, _, rfl⟩) ?_)
    exact ⟨_, _, _, _, _, rfl, List.mem_cons_self⟩
  · intro ys tl hys ha
    unfold LCg.FinE
    intro D h tk F2 N2 o1
    clear lF' lN'
    k_steps
    refine hret _ ((D, LCg.lst ys) :: tl) _ _ (by assumption) (fun p hp => ?_) (ha.cons o1) ⟨D, ys, _, rfl, List.mem_cons_self, ?_⟩
    · rename News _ _ _ _ => kN
      refine kN p ?_
      simp only [List.mem_append, List.mem_cons] at hp ⊢
      grind
    · exact (hys.mono fun _ _ h => h.mono fun p hp => List.mem_cons_of_mem _ hp).map seenOf
theorem off_12 : True := by
  w_top off
  trivial
/-- the pool's octets: ints that are not below nought -/
def NatIs (v : Value) : Prop := ∃ (n : Nat) (t : Tok), v = .int (n : Int) t
theorem upd_head {D : Addr} {o o' : Obj} {news : List (Addr × Obj)} (h : ∀ p ∈ news, p.1 ≠ D) : Upd D o o' ((D, o) :: news) ((D, o') :: news) := .head h
section
variable {prog : Program} {w : World} {A : Around} {E : Value → Shared → Prop} {s : Shared} {h₀ : Heap} {L D : Addr} {m : Str → Option Value} {news : List (Addr × Obj)} {v v' : Value} {vs : List Value} {n : Nat} {u : Tok}
theorem pool_len {Q : Value → Shared → Prop} (N : News h₀ L s.heap news) (hm : (D, W.listOf vs.toArray n) ∈ news) (hfit : vs.length ≤ 24)
    (h : ∀ t k, Q (.int (vs.length : Int) t) { s with toks := k }) : wpAny (model prog w) A (call (.builtin "len") [.ref D]) Q E s :=
  kst_len N hm rfl (by omega) (h _ _)
theorem pool_item {value slice : PySem.Expr} {Q : Value → Shared → Prop} (N : News h₀ L s.heap news) (hm : (D, W.listOf (v :: vs).toArray n) ∈ news) (h : Q v s)
    (hs : subscripted slice false (.ref D) (.int 0 u) = operate [.ref D, .int 0 u] (getItem (.ref D) (.int 0 u)) := by with_unfolding_all rfl) :
    wpAny (model prog w) A (subscriptTail value slice (.ref D) (.int 0 u)) Q E s := by
  have hl : s.heap.IsList D (v :: vs).toArray := ⟨_, (N _ hm).1, rfl, n, rfl⟩
  exact tail_any hl.typeIs slot_list_getitem.lookup (wpAny_getItem_list hl (by omega) (by omega) (by simp) h) hs
theorem pool_set {Q : Unit → Shared → Prop} (F : Fr h₀ L s.heap m) (N : News h₀ L s.heap ((D, W.listOf (v :: vs).toArray n) :: news)) (hne : ∀ p ∈ news, p.1 ≠ D)
    (h : ∀ h', Fr h₀ L h' m → News h₀ L h' ((D, W.listOf (v' :: vs).toArray n) :: news) → Q () { s with heap := h' }) :
    wpAny (model prog w) A (setItem (.ref D) (.int 0 u) v') Q E s := by
  have z := N (D, W.listOf (v :: vs).toArray n) (.head _)
  refine ki_setAt z.1 (by omega) (by omega) (by simp) (h _ (F.change (Heap.SameBut.update ..) z.2.1 z.2.2) (ki_turn (pre := []) _ N (by simp) hne ?_ ?_))
  · show (v :: vs).toArray.setIfInBounds _ v' = _
    apply Array.toList_inj.mp
    simp
  · simp
theorem pool_pop {Q : Value → Shared → Prop} (F : Fr h₀ L s.heap m) (N : News h₀ L s.heap ((D, W.listOf (v :: vs).toArray n) :: news)) (hne : ∀ p ∈ news, p.1 ≠ D) (hz : vs.length ≤ 24)
    (h : ∀ h' k, Fr h₀ L h' m → News h₀ L h' ((D, W.listOf vs.toArray k) :: news) → Q v { s with heap := h' }) :
    wpAny (model prog w) A (call (.builtin "list.pop") [.ref D, .int 0 u]) Q E s := by
  refine kl_popAt F N (by decide) (k := 0) ?_ (p := []) (q := vs) (y := v) rfl (upd_head hne) ?_ (fun h' F' N' => h h' _ F' N')
  · rw [List.size_toArray, List.length_cons]; simp [seqIndex?]
  · rw [List.length_cons, sizeLine_eq]; omega
end
theorem fmod_cast (a b : Nat) : Int.fmod (a : Int) (b : Int) = ((a % b : Nat) : Int) := by
  rw [Int.fmod_eq_emod_of_nonneg _ (by omega)]; rfl
theorem fdiv_cast (a b : Nat) : Int.fdiv (a : Int) (b : Int) = ((a / b : Nat) : Int) := by
  rw [Int.fdiv_eq_ediv_of_nonneg _ (by omega)]; rfl
/-- _law_take: the pool is turned, a digit comes out -/
def TakeTells (prog : Program) (w : World) (mean : ExcName → Option Value) (mg mb : Str → Option Value) : Prop :=
  ∀ (dp un : Nat) (gd : Option (List Code)) (cn : Str) (cs : Scope) (a : Addr) (ccd : Value) (cl : List (Str × Addr)) (outer : List Env) (A₀ : Around) (base h₀ : Heap) (L : Addr) (m : Str → Option Value) (news : List (Addr × Obj)) (s : Shared)
    (Q E : Value → Shared → Prop) (pa : Addr) (vs : List Value) (k : Nat) (many : Nat) (tm : Tok),
    Below A₀ base outer h₀ → Fr h₀ L s.heap m → (hd.heap_39 w.params).In h₀ → News h₀ L s.heap ((pa, W.listOf vs.toArray k) :: news) → (∀ p ∈ news, p.1 ≠ pa) → Top hd.view_39 (looseW hd.view_39 [Str.ofString "read_spans"]) mean mg mb h₀ → cs.kind = .function →
    (∀ v ∈ vs, NatIs v) → vs.length ≤ 24 → 1 ≤ many → many ≤ 6 → dp + 1 < recursionLimit → un + 8 < cLine →
    (∀ (d : Nat) (t : Tok) (vs' : List Value) (k' : Nat) (h' : Heap) (tk' : Nat), Fr h₀ L h' m → News h₀ L h' ((pa, W.listOf vs'.toArray k') :: news) → (∀ v ∈ vs', NatIs v) → vs'.length ≤ 24 → d < many → Q (.int (d : Int) t) { s with heap := h', toks := tk' }) →
    wpAny (model prog w) (ktrTop dp un gd cn cs L a ccd cl outer) (call (.ref 107) [.ref pa, .int (many : Int) tm]) Q E s
local macro_rules | `(tactic| walk_at "call builtin:len") => `(tactic| (k_here; (with_reducible show wpAny _ _ (call _ [Value.ref _]) _ _ _); (refine pool_len (by assumption) List.mem_cons_self (by assumption) ?_); intro _ _))
local macro_rules | `(tactic| walk_at "subscriptTail") => `(tactic| (k_here; (with_reducible show wpAny _ _ (subscriptTail _ _ (Value.ref _) (Value.int 0 _)) _ _ _); (refine pool_item (by assumption) List.mem_cons_self ?_)))
local macro_rules | `(tactic| walk_at "setItem ref int") => `(tactic| (k_here; (refine pool_set (by assumption) (by assumption) (by assumption) ?_); intro _ _ _))
local macro_rules | `(tactic| walk_at "call builtin:list.pop") => `(tactic| (k_here; (refine pool_pop (by assumption) (by assumption) (by assumption) (by omega) ?_); intro _ _ _ _))
theorem lawtake_ok {prog : Program} {w : World} {mean mg mb} : TakeTells prog w mean mg mb := by
  unfold TakeTells
  intro dp un gd cn cs a ccd cl outer A₀ base h₀ L m news s Q E pa vs k many tm B F X N hne T hk hvs hlen h1 h6 hd hu hret
  refine wpAny_call ?_
  k_dflt ktr_enter
  clear F N
  k_steps
  · have e : vs = [] := by
      apply List.eq_nil_of_length_eq_zero; omega
    exact hret 0 _ vs k _ _ (by assumption) (by assumption) hvs hlen (by omega)
  · cases vs with
    | nil => simp at *
    | cons v vs =>
      obtain ⟨n, t, rfl⟩ := hvs v List.mem_cons_self
      have hvs' : ∀ v ∈ vs, NatIs v := fun v hv => hvs v (List.mem_cons_of_mem _ hv)
      rw [List.length_cons] at hlen
      refine (show wpAny _ _ _ _ _ _ from ?_)
      k_fold
      k_steps
      · rw [fmod_cast]
        exact hret _ _ vs _ _ _ (by assumption) (by assumption) hvs' (by omega) (Nat.mod_lt _ (by omega))
      · rename Fr h₀ _ _ _ => kF
        rename News h₀ _ _ _ => kN
        rw [fdiv_cast] at kN
        rw [fmod_cast]
        refine hret _ _ (.int ((n / many : Nat) : Int) _ :: vs) _ _ _ kF kN (List.forall_mem_cons.mpr ⟨⟨_, _, rfl⟩, hvs'⟩) (by rw [List.length_cons]; omega) (Nat.mod_lt _ (by omega))
/-- the place of an object in a ledger, what lies before it and behind -/
inductive Hole (d : Addr) (o : Obj) : List (Addr × Obj) → List (Addr × Obj) → List (Addr × Obj) → Prop
  | head {r} : (∀ p ∈ r, p.1 ≠ d) → Hole d o ((d, o) :: r) [] r
  | tail {p r a b} : p.1 ≠ d → Hole d o r a b → Hole d o (p :: r) (p :: a) b
theorem Hole.split {d : Addr} {o : Obj} {l a b : List (Addr × Obj)} (h : Hole d o l a b) : l = a ++ (d, o) :: b ∧ ∀ p ∈ a ++ b, p.1 ≠ d := by
  induction h with
  | head h => exact ⟨rfl, h⟩
  | tail hp _ ih =>
    refine ⟨by rw [ih.1]; rfl, fun q hq => ?_⟩
    rcases List.mem_cons.mp hq with rfl | hq
    · exact hp
    · exact ih.2 q hq
theorem take_use {prog : Program} {w : World} {mean : ExcName → Option Value} {mg mb : Str → Option Value} {dp un : Nat} {gd : Option (List Code)} {cn : Str} {cs : Scope} {a : Addr} {ccd : Value} {cl : List (Str × Addr)} {outer : List Env} {A₀ : Around} {base h₀ : Heap} {L : Addr} {m : Str → Option Value} {all pre post : List (Addr × Obj)} {s : Shared}
    {Q E : Value → Shared → Prop} {pa : Addr} {vs : List Value} {k : Nat} {many : Int} {tm : Tok}
    (kk : Below A₀ base outer h₀ ∧ Fr h₀ L s.heap m ∧ (hd.heap_39 w.params).In h₀ ∧ News h₀ L s.heap all ∧ Top hd.view_39 (looseW hd.view_39 [Str.ofString "read_spans"]) mean mg mb h₀ ∧ cs.kind = .function)
    (H : Hole pa (W.listOf vs.toArray k) all pre post) (hv : ∀ v ∈ vs, NatIs v) (hl : vs.length ≤ 24) (o : (1 ≤ many ∧ many ≤ 6) ∧ dp + 1 < recursionLimit ∧ un + 8 < cLine)
    (h : ∀ (d : Nat) (t : Tok) (vs' : List Value) (k' : Nat) (h' : Heap) (tk' : Nat), Fr h₀ L h' m → News h₀ L h' (pre ++ (pa, W.listOf vs'.toArray k') :: post) → (∀ v ∈ vs', NatIs v) → vs'.length ≤ 24 → (d : Int) < many → Q (.int (d : Int) t) { s with heap := h', toks := tk' }) :
    wpAny (model prog w) (ktrTop dp un gd cn cs L a ccd cl outer) (call (.ref 107) [.ref pa, .int many tm]) Q E s := by
  obtain ⟨B, F, X, N, T, hk⟩ := kk
  obtain ⟨⟨h1, h6⟩, hd, hu⟩ := o
  obtain ⟨rfl, hne⟩ := H.split
  obtain ⟨m', rfl⟩ : ∃ m' : Nat, many = (m' : Int) := ⟨many.toNat, by omega⟩
  have sub : ∀ {o : Obj} (p), p ∈ (pa, o) :: (pre ++ post) → p ∈ pre ++ (pa, o) :: post := fun p hp => by
    simp only [List.mem_cons, List.mem_append] at hp ⊢
    grind
  have sub' : ∀ {o : Obj} (p), p ∈ pre ++ (pa, o) :: post → p ∈ (pa, o) :: (pre ++ post) := fun p hp => by
    simp only [List.mem_cons, List.mem_append] at hp ⊢
    grind
  exact lawtake_ok _ _ _ _ _ _ _ _ _ _ _ _ _ _ _ _ _ _ _ _ _ _ _ B F X (fun p hp => N p (sub p hp)) hne T hk hv hl (by omega) (by omega) hd hu
    (fun d t vs' k' h' tk' F' N' hv' hl' hd' => h d t vs' k' h' tk' F' (fun p hp => N' p (sub' p hp)) hv' hl' (by omega))
local macro_rules | `(tactic| walk_at "m:hole") => `(tactic| first | (refine' Hole.head ?a; (case a => k_all)) | (refine' Hole.tail ?a ?b; (case a => k_ne); (case b => walk_at "m:hole")))
local macro_rules | `(tactic| walk_at "call ref") => `(tactic| (k_here; k_dflt (refine' take_use (by walk_at "m:five") (by walk_at "m:hole") (by assumption) (by assumption) (by walk_at "m:sides") ?_); intro _ _ _ _ _ _ _ N9 _ _ _; (try simp only [List.cons_append, List.nil_append] at N9)))
theorem allLt_ne {d : Addr} {l : List (Addr × Obj)} (h : AllLt d l) : ∀ p ∈ l, p.1 ≠ d := fun p hp e => by
  have := ktn_ltOf h p hp
  rw [e] at this
  exact absurd this (Nat.lt_irrefl _)
theorem unr_end {h₀ : Heap} {L I : Addr} {it : Obj} {rest : (Str → Option Value) → List (Addr × Obj) → Prop} {s₁ : Shared} {h' : Heap} {tk : Nat} {m' : Str → Option Value} {all pre post : List (Addr × Obj)} (F : Fr h₀ L h' m') (N : News h₀ L h' all)
    (H : Hole I it all pre post) (r : rest m' (pre ++ post)) : UnrEnd h₀ L s₁ I it rest { s₁ with heap := h', toks := tk } := by
  obtain ⟨rfl, hne⟩ := H.split
  refine UnrEnd.intro F N (pre ++ post) (fun p hp => ?_) hne r
  simp only [List.mem_cons, List.mem_append] at hp ⊢
  grind
local macro_rules | `(tactic| k_all) => `(tactic| first | ((with_reducible refine List.forall_mem_cons.mpr ⟨?_, ?_⟩) <;> first | k_ne | k_all) | ((with_reducible refine List.forall_mem_append.mpr ⟨?_, ?_⟩) <;> k_all) | ((with_reducible show ∀ p ∈ _, p.1 ≠ _); with_reducible exact OwnOff.ne (by assumption) (by k_memK)) | (with_reducible refine allLt_ne ?_; walk_at "m:and") | (with_reducible refine Apart.ne (by assumption) ?_; k_mem))
local macro_rules | `(tactic| walk_at "UnrEnd") => `(tactic| (k_dflt (refine' unr_end (by k_asm) (by k_asm) (by walk_at "m:hole") ?_); k_whole; (try dsimp only [List.cons_append, List.nil_append])))
def Same (stored : List Str) (m₀ m' : Str → Option Value) : Prop := ∀ z, stored.contains z = false → m' z = m₀ z
theorem Same.base {stored : List Str} {m₀ u : Str → Option Value} : Same stored m₀ (fun z => if stored.contains z then u z else m₀ z) := fun z h => by
  show (if stored.contains z then u z else m₀ z) = m₀ z
  rw [h]; rfl
theorem Same.put {stored : List Str} {m₀ m : Str → Option Value} {x : Str} {v : Option Value} (hx : stored.contains x = true) (h : Same stored m₀ m) : Same stored m₀ (fun y => if y = x then v else m y) := fun z hz => by
  have hne : z ≠ x := fun e => by rw [e, hx] at hz; cases hz
  show (if z = x then v else m z) = m₀ z
  rw [if_neg hne]; exact h z hz
theorem same_use {stored : List Str} {m₀ m' : Str → Option Value} (h : Same stored m₀ m') : ∀ z, (∀ p ∈ ([] : List (Str × Value)), z ≠ p.1) → stored.contains z = false → m' z = m₀ z := fun z _ hz => h z hz
local macro_rules | `(tactic| walk_at "m:same") => `(tactic| first | exact Same.base | (refine Same.put (by rfl) ?_; walk_at "m:same"))
theorem off_13 : True := by
  w_top off
  trivial
section
variable {prog : Program} {w : World} {A : Around} {E : Value → Shared → Prop} {s : Shared}
theorem assign3 {env : Env} {a b c : Str} {pa pb pc tp : Pos} {kk : Nat} {T : Addr} {x y z : Value} {m : Str → Option Value} {Q : Unit → Shared → Prop} (hh : A.handled = none) (ht : s.heap.IsTuple T #[x, y, z])
    (ha : env.kindOf a = some .local) (hb : env.kindOf b = some .local) (hc : env.kindOf c = some .local) (hp : (env.scope.kind == .class || (env.scope.kind == .module && env.locals != env.globals)) = false) (hn : s.heap.Ns env.locals m)
    (h : ∀ (h' : Heap) (tk : Nat), h'.Ns env.locals (fun n => if n = c then some z else if n = b then some y else if n = a then some x else m n) → (∀ q o, q ≠ env.locals → s.heap.get? q = some o → h'.get? q = some o) → Q () { s with heap := h', toks := tk }) :
    wpAny (model prog w) A (assign (.Tuple [.Name a pa, .Name b pb, .Name c pc] kk tp) env (.ref T)) Q E s := by
  refine wpAny_assign_Tuple hh ht rfl rfl fun h₁ he₁ => ?_
  have hL : env.locals ≠ s.heap.objs.size := Nat.ne_of_lt hn.lt
  have hn₁ : h₁.Ns env.locals m := hn.at' fun o e => he₁ _ o hL e
  have up₁ : ∀ q o, s.heap.get? q = some o → h₁.get? q = some o := fun q o e => he₁ q o (Nat.ne_of_lt (Heap.lt_size e)) e
  show wpAny _ _ (assignInOrder [assign (.Name a pa) env, assign (.Name b pb) env, assign (.Name c pc) env] [x, y, z]) _ _ _
  refine assignInOrder_cons ?_
  refine wpAny_assign_Name (wpAny_storeName_local ha hn₁ (fun h₂ hn₂ hs₂ => ?_) hp)
  refine assignInOrder_cons ?_
  refine wpAny_assign_Name (wpAny_storeName_local hb hn₂ (fun h₃ hn₃ hs₃ => ?_) hp)
  refine assignInOrder_cons ?_
  refine wpAny_assign_Name (wpAny_storeName_local hc hn₃ (fun h₄ hn₄ hs₄ => ?_) hp)
  refine assignInOrder_nil ?_
  exact h h₄ _ hn₄ fun q o hq e => hs₄.extBut q o hq (hs₃.extBut q o hq (hs₂.extBut q o hq (up₁ q o e)))
end
section
variable {prog : Program} {w : World} {A : Around} {E : Value → Shared → Prop} {s : Shared} {h₀ : Heap} {L : Addr} {m : Str → Option Value} {env : Env}
/-- a turn of a comprehension over spans -/
def Turn3 (prog : Program) (w : World) (A : Around) (h₀ : Heap) (L : Addr) (m : Str → Option Value) (env : Env) (elt : PySem.Expr) (a b c : Str) (scope : Scope) (cl : List (Str × Addr)) (s : Shared) (news : List (Addr × Obj)) (G : List (Addr × Obj) → Value → SpanD → Prop) (ds : List SpanD) : Prop :=
  ∀ (i : Nat) (hi : i < ds.length) u tb te I oI oC C Da m₂ ys tl h tk (E' : Value → Shared → Prop), LCg.NsObj oC m₂ → m₂ a = some (.bytes (ds[i]'hi).1.toArray u) → m₂ b = some (.int (ds[i]'hi).2.1 tb) → m₂ c = some (.int (ds[i]'hi).2.2 te) →
    Fr h₀ L h m → News h₀ L h ((I, oI) :: (C, oC) :: (Da, LCg.lst ys) :: (news ++ tl)) → LCg.Off3 I C Da (news ++ tl) → ((@Ne Nat I C) ∧ (@Ne Nat I Da) ∧ (@Ne Nat C Da)) → Apart news tl →
    wpAny (model prog w) A (eval elt (compEnvC scope cl C env)) (LCg.CompEnd h₀ L m { s with heap := h, toks := tk } I oI C oC Da (LCg.lst ys) (fun _ => True) (CompTurn G news tl (ds[i]'hi))) E' { s with heap := h, toks := tk }
theorem block_T {elt iter : PySem.Expr} {a b c : Str} {pa pb pc tp : Pos} {kk : Nat} {scope : Scope} {cl : List (Str × Addr)} {pos : Pos} {s₂ : Shared} {I ax : Addr} {xs : List Value} {kx : Nat} {ds : List SpanD} {news : List (Addr × Obj)} {G : List (Addr × Obj) → Value → SpanD → Prop}
    {RR : Value → Addr → Result → Shared → Prop}
    (hh : A.handled = none) (hsz : xs.length ≤ sizeLine) (hm : (ax, W.listOf xs.toArray kx) ∈ news) (hxs : All2 (SpanIn news) xs ds) (hG : ∀ tl tl' y d, (∀ p ∈ tl, p ∈ tl') → G tl y d → G tl' y d)
    (hcell : ∀ y ∈ scope.names, y.2 ≠ .cell) (hkind : scope.kind = .function) (hxa : scope.names.lookup a = some .local) (hxb : scope.names.lookup b = some .local) (hxc : scope.names.lookup c = some .local) (hba : ¬ a = b) (hca : ¬ a = c) (hcb : ¬ b = c)
    (hit : s₂.heap.IsListIter I ax 0) (F : Fr h₀ L s₂.heap m) (N : News h₀ L s₂.heap news) (hIL : L ≠ I) (hI₀ : h₀.get? I = none) (off : ∀ p ∈ news, p.1 ≠ I)
    (turn : Turn3 prog w A h₀ L m env elt a b c scope cl s₂ news G ds)
    (hRR : ∀ D C h tk m' ys tl, Fr h₀ L h m → News h₀ L h ((D, LCg.lst ys) :: (news ++ tl)) → LCg.Off1 D (news ++ tl) → h.Ns C m' → h₀.get? C = none → h₀.get? D = none → C ≠ L → D ≠ L → C ≠ D → (∀ p ∈ news ++ tl, p.1 ≠ C) → All2 (G tl) ys ds → Apart news tl → RR (.ref D) C (.ok .next) { s₂ with heap := h, toks := tk }) :
    wpAny (model prog w) A (newList []) (fun acc s₃ => wpAny (model prog w) A (newFunctionEnv scope env.globals cl [] env.qual none .none (some env)) (fun cenv s₄ =>
      codeAny (model prog w) A (.compStart (.ListComp elt [⟨.Tuple [.Name a pa, .Name b pb, .Name c pc] kk tp, iter, [], 0⟩] scope pos) 0 (.ref I) acc { cenv with scope := relabel scope env }) (RR acc cenv.locals) s₄) E s₃) E s₂ := by
  refine wpAny_newObj_type (wpAny_newFunctionEnv hcell (by intro y hy; simp at hy) (fun h₁ hns₁ hsb₁ => ?_) hkind)
  dsimp only at hns₁ hsb₁ ⊢
  generalize hH2 : s₂.heap.push { cls := .type "list", dict := none, data := .seq ([] : List Value).toArray } = H2 at hns₁ hsb₁ ⊢
  have hC : H2.objs.size = s₂.heap.objs.size + 1 := by rw [← hH2, Heap.size_push]
  have hDC : s₂.heap.objs.size ≠ H2.objs.size := by rw [hC]; exact Nat.ne_of_lt (Nat.lt_succ_self _)
  have below : ∀ q, q < s₂.heap.objs.size → q ≠ H2.objs.size ∧ q ≠ s₂.heap.objs.size := fun q hq => ⟨by rw [hC]; exact Nat.ne_of_lt (Nat.lt_succ_of_lt hq), Nat.ne_of_lt hq⟩
  have hIlt : I < s₂.heap.objs.size := by obtain ⟨_, e, _⟩ := hit; exact Heap.lt_size e
  have old : ∀ q o, s₂.heap.get? q = some o → h₁.get? q = some o := fun q o e => hsb₁.extBut q o (below q (Heap.lt_size e)).1 (Heap.get?_push_of_some _ (hH2 ▸ Heap.get?_push_of_some _ e))
  have hacc : h₁.get? s₂.heap.objs.size = some (LCg.lst []) := hsb₁.extBut _ _ hDC (Heap.get?_push_of_some _ (hH2 ▸ Heap.get?_push_size _ rfl))
  have hit₁ : h₁.IsListIter I ax 0 := hit.at fun o e => old _ o e
  have fresh : ∀ q, s₂.heap.objs.size ≤ q → s₂.heap.get? q = none := fun q hq => by
    cases e : s₂.heap.get? q with
    | none => rfl
    | some o' => exact absurd (Heap.lt_size e) (Nat.not_lt.mpr hq)
  have fresh₀ : ∀ q, s₂.heap.objs.size ≤ q → h₀.get? q = none := fun q hq => by
    cases e : h₀.get? q with
    | none => rfl
    | some o' => have := F.keep q o' e; rw [fresh q hq] at this; cases this
  have hD₀ : h₀.get? s₂.heap.objs.size = none := fresh₀ _ (Nat.le_refl _)
  have hC₀ : h₀.get? H2.objs.size = none := fresh₀ _ (by rw [hC]; exact Nat.le_succ _)
  have hLlt : L < s₂.heap.objs.size := F.ns.lt
  have hDL : s₂.heap.objs.size ≠ L := Ne.symm (below L hLlt).2
  have hCL : H2.objs.size ≠ L := Ne.symm (below L hLlt).1
  have hCI : I ≠ H2.objs.size := (below I hIlt).1
  have hDI : I ≠ s₂.heap.objs.size := (below I hIlt).2
  have off₀ : LCg.Off3 I H2.objs.size s₂.heap.objs.size (news ++ []) := by
    rw [List.append_nil]
    exact LCg.Off3.of fun p hp => ⟨off p hp, (below _ (Heap.lt_size (N p hp).1)).1, (below _ (Heap.lt_size (N p hp).1)).2⟩
  have hlen := hxs.length
  have hax : ax ≠ I := off _ hm
  have W := Walks.list (prog := prog) (w := w) hh I ax hax xs.toArray
  have hsize : xs.toArray.size = xs.length := by simp
  rw [hsize] at W
  have isl : ∀ (h : Heap) (tl : List (Addr × Obj)), News h₀ L h (news ++ tl) → h.IsList ax xs.toArray := fun h tl N' => ⟨_, (N' _ (List.mem_append_left _ hm)).1, rfl, kx, rfl⟩
  have loop : ∀ s₃ : Shared, s₃ = { s₂ with heap := h₁, toks := s₂.toks + ([] : List (Str × Value)).length } →
      codeAny (model prog w) A (.compLoop (.ListComp elt [⟨.Tuple [.Name a pa, .Name b pb, .Name c pc] kk tp, iter, [], 0⟩] scope pos) 0 (.ref I) (.ref s₂.heap.objs.size) (compEnvC scope cl H2.objs.size env))
        (RR (.ref s₂.heap.objs.size) H2.objs.size) s₃ := by
    rintro s₃ rfl
    refine kcp_loop
      (fun k s' => ∃ h' tk i ys m' tl, s' = { s₂ with heap := h', toks := tk } ∧ i ≤ xs.length ∧ k = xs.length + 1 - i ∧ h'.IsListIter I ax i ∧ Fr h₀ L h' m ∧ h'.Ns H2.objs.size m' ∧
        News h₀ L h' ((s₂.heap.objs.size, LCg.lst ys) :: (news ++ tl)) ∧ LCg.Off3 I H2.objs.size s₂.heap.objs.size (news ++ tl) ∧ All2 (G tl) ys (ds.take i) ∧ Apart news tl) ?_ (xs.length + 1)
      ⟨h₁, _, 0, [], _, [], rfl, Nat.zero_le _, rfl, hit₁, F.keeps old, hns₁, fun p hp => ?_, off₀, by rw [List.take_zero]; exact .nil, Apart.nil⟩
    · rintro k s' ⟨h', tk, i, ys, m', tl, rfl, hi, rfl, hit', F', hn', N', off', hys, hap⟩
      have off3 := off'.mem
      have hl' : h'.IsList ax xs.toArray := isl h' tl fun p hp => N' p (List.mem_cons_of_mem _ hp)
      by_cases hlt : i < xs.length
      · have hi' : i < ds.length := by omega
        refine W.item i _ _ _ hlt ⟨hit', hl'⟩ fun v h₂ tk₂ hPv hst₂ hk₂ => ?_
        have hv : xs[i] = v := by
          have h9 : xs[i]? = some v := by simpa using hPv
          rw [List.getElem?_eq_getElem hlt] at h9
          exact Option.some.inj h9
        obtain ⟨T, nT, u, tb, te, hT, hTm⟩ := hxs.get hlt
        rw [hv] at hT
        subst hT
        have N₂ : News h₀ L h₂ ((s₂.heap.objs.size, LCg.lst ys) :: (news ++ tl)) := LCg.news_but N' hk₂ fun p hp => by
          rcases List.mem_cons.mp hp with rfl | hp
          · exact Ne.symm hDI
          · exact (off3 p hp).1
        refine wpAny_letOwnedTupleGo_listiter hst₂.1 ?_
        have hTt : h₂.IsTuple T #[.bytes (ds[i]).1.toArray u, .int (ds[i]).2.1 tb, .int (ds[i]).2.2 te] := ⟨_, (N₂ _ (List.mem_cons_of_mem _ (List.mem_append_left _ hTm))).1, rfl, nT, rfl⟩
        refine assign3 (env := compEnvC scope cl H2.objs.size env) hh hTt (lookup_relabel_local hxa) (lookup_relabel_local hxb) (lookup_relabel_local hxc) (by simp [compEnvC, relabel, hkind]) (hn'.at' fun o e => hk₂ _ o (by simpa using Ne.symm hCI) e) fun h₄ tk₄ hn₄ hs₄ => ?_
        have up : ∀ q o, q ≠ I → q ≠ H2.objs.size → h'.get? q = some o → h₄.get? q = some o := fun q o h1 h2 e => hs₄ q o h2 (hk₂ q o (by simpa using h1) e)
        have hI₄ : h₄.IsListIter I ax (i + 1) := hst₂.1.at fun o e => hs₄ I o hCI e
        obtain ⟨oI, heI, hoI⟩ : ∃ oI : Obj, h₄.get? I = some oI ∧ ∀ h : Heap, h.get? I = some oI → h.IsListIter I ax (i + 1) := by
          obtain ⟨o, e, r⟩ := hI₄
          exact ⟨o, e, fun h e' => ⟨o, e', r⟩⟩
        obtain ⟨oC, heC, hoC⟩ := LCg.ns_obj hn₄
        have F₄ : Fr h₀ L h₄ m := ⟨F'.ns.at' fun o e => up _ o hIL (Ne.symm hCL) e, fun q o e => up q o (fun r => by rw [r, hI₀] at e; cases e) (fun r => by rw [r, hC₀] at e; cases e) (F'.keep q o e), F'.above⟩
        have N₄ : News h₀ L h₄ ((I, oI) :: (H2.objs.size, oC) :: (s₂.heap.objs.size, LCg.lst ys) :: (news ++ tl)) := fun q hq => by
          rcases List.mem_cons.mp hq with rfl | hq
          · exact ⟨heI, Ne.symm hIL, hI₀⟩
          · rcases List.mem_cons.mp hq with rfl | hq
            · exact ⟨heC, hCL, hC₀⟩
            · have z := N' q hq
              refine ⟨up _ _ ?_ ?_ z.1, z.2⟩
              · rcases List.mem_cons.mp hq with rfl | hq
                · exact Ne.symm hDI
                · exact (off3 q hq).1
              · rcases List.mem_cons.mp hq with rfl | hq
                · exact hDC
                · exact (off3 q hq).2.1
        refine wpAny_mono (turn i hi' u tb te I oI oC H2.objs.size s₂.heap.objs.size _ ys tl h₄ _ _ hoC (by simp [hba, hca]) (by simp [hcb]) (by simp) F₄ N₄ off' ⟨hCI, hDI, Ne.symm hDC⟩ hap) (fun y s₅ h₅ => ?_) fun _ _ e => e
        obtain ⟨h₅, tk₅, news₅, rfl, F₅, N₅, off₅, _, tl₅, rfl, hsub, hap₅, hg⟩ := h₅
        have zI := (N₅ (I, oI) List.mem_cons_self).1
        have zC := (N₅ (H2.objs.size, oC) (List.mem_cons_of_mem _ List.mem_cons_self)).1
        have zD := (N₅ (s₂.heap.objs.size, LCg.lst ys) (List.mem_cons_of_mem _ (List.mem_cons_of_mem _ List.mem_cons_self))).1
        have N₅' : News h₀ L h₅ (news ++ tl₅) := fun q hq => N₅ q (List.mem_cons_of_mem _ (List.mem_cons_of_mem _ (List.mem_cons_of_mem _ hq)))
        have hyl : ys.length = i := by rw [hys.length, List.length_take]; omega
        refine append_at (hsz := by show ys.toArray.size ≤ sizeLine; rw [List.size_toArray, hyl]; exact Nat.le_trans hi hsz) zD fun h₆ hs₆ hD₆ => ?_
        have off5 := off₅.mem
        refine ⟨xs.length + 1 - (i + 1), by omega, h₆, tk₅, i + 1, ys ++ [y], _, tl₅, rfl, hlt, rfl, hoI h₆ (hs₆.extBut I oI hDI zI), F₅.change hs₆ hDL hD₀,
          (hoC.ns zC).sameBut hs₆ (Ne.symm hDC), fun q hq => ?_, off₅, ?_, hap₅⟩
        · rcases List.mem_cons.mp hq with rfl | hq
          · exact ⟨hD₆.trans (congrArg some (LCg.lst_snoc ys y)), hDL, hD₀⟩
          · exact ⟨hs₆.extBut _ _ (off5 q hq).2.2 (N₅' q hq).1, (N₅' q hq).2⟩
        · rw [List.take_add_one, List.getElem?_eq_getElem hi']
          exact All2.snoc hg (hys.mono fun _ _ h => hG _ _ _ _ hsub h)
      · have hin : i = xs.length := Nat.le_antisymm hi (Nat.not_lt.mp hlt)
        subst hin
        rw [hlen, List.take_length] at hys
        refine W.done _ _ _ ⟨hit', hl'⟩ fun h₂ tk₂ hk₂ => ?_
        exact hRR _ _ h₂ tk₂ _ ys tl (LCg.fr_but F' hk₂ hIL hI₀) (LCg.news_but N' hk₂ fun p hp => by
          rcases List.mem_cons.mp hp with rfl | hp
          · exact Ne.symm hDI
          · exact (off3 p hp).1) off'.one (hn'.at' fun o e => hk₂ _ o (by simpa using Ne.symm hCI) e) hC₀ hD₀ hCL hDL (Ne.symm hDC) (fun p hp => (off3 p hp).2.1) hys hap
    · rw [List.append_nil] at hp
      rcases List.mem_cons.mp hp with rfl | hp
      · exact ⟨hacc, hDL, hD₀⟩
      · exact ⟨old _ _ (N p hp).1, (N p hp).2⟩
  have hst₁ : h₁.IsListIter I ax 0 ∧ h₁.IsList ax xs.toArray := ⟨hit₁, ⟨_, old _ _ (N _ hm).1, rfl, kx, rfl⟩⟩
  exact codeAny_compStart_list (loop _ rfl) (W.self 0 _ _ _ hst₁ (loop _ rfl))
end
/-- the source of a comprehension over spans, and what each turn does -/
def CompSrc3 (prog : Program) (w : World) (A : Around) (h₀ : Heap) (L : Addr) (m : Str → Option Value) (env : Env) (elt : PySem.Expr) (a b c : Str) (scope : Scope) (cl : List (Str × Addr)) (Fin : Shared → List Value → List (Addr × Obj) → Prop) (xv : Value) (s₁ : Shared) : Prop :=
  ∃ (ax : Addr) (xs : List Value) (kx : Nat) (ds : List SpanD) (news : List (Addr × Obj)) (G : List (Addr × Obj) → Value → SpanD → Prop), xv = .ref ax ∧ A.handled = none ∧ Fr h₀ L s₁.heap m ∧ News h₀ L s₁.heap news ∧ (ax, W.listOf xs.toArray kx) ∈ news ∧ xs.length ≤ sizeLine ∧
    All2 (SpanIn news) xs ds ∧ (∀ tl tl' y d, (∀ p ∈ tl, p ∈ tl') → G tl y d → G tl' y d) ∧ (∀ g : Heap, Turn3 prog w A h₀ L m env elt a b c scope cl { s₁ with heap := g } news G ds) ∧
    ∀ (g : Heap) ys tl, All2 (G tl) ys ds → Apart news tl → Fin { s₁ with heap := g } ys (news ++ tl)
section
variable {prog : Program} {w : World} {A : Around} {E : Value → Shared → Prop} {s : Shared} {h₀ : Heap} {L : Addr} {m : Str → Option Value} {env : Env}
theorem Assign_Comp3 {elt iter : PySem.Expr} {a b c y : Str} {pa pb pc tp py : Pos} {kk : Nat} {scope : Scope} {cl : List (Str × Addr)} {pos spos : Pos} {Q : Flow → Shared → Prop} (F₀ : Fr h₀ L s.heap m) (hLe : env.locals = L)
    (hsw : swapsWith (.ListComp elt [⟨.Tuple [.Name a pa, .Name b pb, .Name c pc] kk tp, iter, [], 0⟩] scope pos) (some (.Name y py)) spos.line env = pure true)
    (hclos : closureFor scope env = pure cl) (hcell : ∀ z ∈ scope.names, z.2 ≠ .cell) (hkind : scope.kind = .function)
    (hnames : ∀ z ∈ scope.names, z.2 = .local → scope.names.lookup z.1 = some .local) (hxa : scope.names.lookup a = some .local) (hxb : scope.names.lookup b = some .local) (hxc : scope.names.lookup c = some .local) (hba : ¬ a = b) (hca : ¬ a = c) (hcb : ¬ b = c)
    (hy : env.kindOf y = some .local) (hp : (env.scope.kind == .class || (env.scope.kind == .module && env.locals != env.globals)) = false)
    (h : wpAny (model prog w) A (eval iter env) (CompSrc3 prog w A h₀ L m env elt a b c scope cl (fun s₂ => LCg.FinA h₀ L m s₂ y Q)) E s)
    (hs : ∀ x, foldedSetIterable iter env x = pure x := by intro _; rfl) :
    wpAny (model prog w) A (exec (.Assign [.Name y py] (.ListComp elt [⟨.Tuple [.Name a pa, .Name b pb, .Name c pc] kk tp, iter, [], 0⟩] scope pos) spos) env) Q E s := by
  subst hLe
  rw [exec_Assign_Name_used _ _ _ _ hsw]
  refine wpAny_bind (wpAny_standAt (wpAny_bind ?_))
  show wpAny _ A (do let _ ← comprehension (.ListComp elt [⟨.Tuple [.Name a pa, .Name b pb, .Name c pc] kk tp, iter, [], 0⟩] scope pos) scope env _ (newList []) false (eval iter env) (some (assign (.Name y py) env))) _ _ s
  refine wpAny_bind (wpAny_mono (wpAny_comprehension_free (use := some (assign (.Name y py) env)) (Q := fun _ s' => Q .next s') rfl hs hclos hkind hnames
    (wpAny_mono h (fun xv s₁ h₁ => ?_) fun _ _ e => e)) (fun _ s' hq => wpAny_pure (wpAny_pure hq)) fun _ _ e => e)
  obtain ⟨ax, xs, kx, ds, news, G, rfl, hh, F, N, hm, hsz, hxs, hG, turn, fin⟩ := h₁
  have hl : s₁.heap.IsList ax xs.toArray := ⟨_, (N _ hm).1, rfl, kx, rfl⟩
  have hlt : ax < s₁.heap.objs.size := Heap.lt_size (N _ hm).1
  refine wpAny_pyIter_list hl ?_
  have up : ∀ b o, s₁.heap.get? b = some o → (s₁.heap.push { cls := .type "list_iterator", data := .fields #[.ref ax, .int 0 0] }).get? b = some o := fun b o e => Heap.get?_push_of_some _ e
  refine block_T hh hsz hm hxs hG hcell hkind hxa hxb hxc hba hca hcb ⟨_, Heap.get?_push_size _ rfl, rfl, rfl⟩ (F.keeps up) (N.grown up) (Nat.ne_of_lt F.ns.lt) (next_new F) (fun p hp => Nat.ne_of_lt (Heap.lt_size (N p hp).1)) (turn _) ?_
  intro D C h' tk m' ys tl F' N' o1 hn hC₀ hD₀ hCL hDL hCD offC hys hap
  show wpAny _ A (assign (.Name y py) env (.ref D)) _ _ _
  refine wpAny_assign_Name (wpAny_storeName_local hy F'.ns (fun h₂ hn₂ hs₂ => ?_) hp)
  have hL₀ : h₀.get? env.locals = none := Heap.get?_none_of_le F'.above
  have F₂ : Fr h₀ env.locals h₂ (fun z => if z = y then some (.ref D) else m z) := ⟨hn₂, fun b o e => hs₂.extBut b o (fun q => by rw [q, hL₀] at e; cases e) (F'.keep b o e), F'.above⟩
  refine ⟨m', hn.sameBut hs₂ hCL, fun h'' hs'' => fin s₁.heap ys tl hys hap D h'' _ (F₂.change hs'' hCL hC₀) (fun p hp => ?_) o1⟩
  have z : h₂.get? p.1 = some p.2 := hs₂.extBut _ _ (N' p hp).2.1 (N' p hp).1
  refine ⟨hs''.extBut _ _ ?_ z, (N' p hp).2⟩
  rcases List.mem_cons.mp hp with rfl | hp
  · exact Ne.symm hCD
  · exact offC p hp
end
theorem off_14 : True := by
  w_top off
  trivial
section
open PySem.SeqAt
variable {prog : Program} {w : World} {A : Around} {E Q : Value → Shared → Prop} {s : Shared} {h₀ : Heap} {L a b : Addr} {news : List (Addr × Obj)} {xs ys : List Value} {k1 k2 : Nat}
theorem eqat_bytes (l : List UInt8) (t u : Tok) : EqAt A s (.bytes l.toArray t) (.bytes l.toArray u) true := fun prog w E Q h => by
  unfold eqBool
  refine wpAny_holding ?_
  refine wpAny_ite_split (fun hab => ?_) (fun _ => ?_)
  · exact wpAny_bind (wpAny_rule (wpAny_pure h))
  · refine wpAny_bind (richCompare_gives (op := .Eq) (T := "bytes") rfl rfl FB.slot_bytes_eq FB.entry_bytes_eq (FB.args_bytes_eq_2 _ _) (gives_bytes_eq l.toArray l.toArray t u) (fun x => nomatch x) (wpAny_truthy_bool ?_))
    rw [show ((l.toArray).toList == (l.toArray).toList) = true by simp]; exact h
theorem eqat_is {l : List UInt8} {v x : Value} (h1 : BytesIs v l) (h2 : BytesIs x l) : EqAt A s v x true := by
  obtain ⟨t, rfl⟩ := h1
  obtain ⟨u, rfl⟩ := h2
  exact eqat_bytes l t u
theorem eqat_int (n : Int) (t u : Tok) : EqAt A s (.int n t) (.int n u) true := by
  have h := EqAt.int_int (A := A) (s := s) n t n u
  rw [show (n == n) = true by simp] at h
  exact h
theorem eqat_span {v x : Value} {d : SpanD} (N : News h₀ L s.heap news) (hu : A.units < cLine) (h1 : SpanIn news v d) (h2 : SpanIn news x d) : EqAt A s v x true := by
  obtain ⟨t, n, u, tb, te, rfl, hm⟩ := h1
  obtain ⟨t', n', u', tb', te', rfl, hm'⟩ := h2
  by_cases e : t = t'
  · subst e; exact EqAt.same _
  · have i1 : s.heap.IsTuple t #[.bytes d.1.toArray u, .int d.2.1 tb, .int d.2.2 te] := ⟨_, (N _ hm).1, rfl, n, rfl⟩
    have i2 : s.heap.IsTuple t' #[.bytes d.1.toArray u', .int d.2.1 tb', .int d.2.2 te'] := ⟨_, (N _ hm').1, rfl, n', rfl⟩
    refine EqAt.of_refs e (RcAt.tuples (e := fun _ => true) i1 i2 hu fun j h1 h2 => ?_)
    have hj : j < 3 := h1
    obtain rfl | rfl | rfl : j = 0 ∨ j = 1 ∨ j = 2 := by omega
    · exact eqat_bytes _ _ _
    · exact eqat_int _ _ _
    · exact eqat_int _ _ _
theorem all_true (n : Nat) : (List.range n).all (fun _ => true) = true := by simp
theorem ne_all {α : Type} {P : Value → α → Prop} {ds : List α} (N : News h₀ L s.heap news) (h1 : (a, W.listOf xs.toArray k1) ∈ news) (h2 : (b, W.listOf ys.toArray k2) ∈ news) (hx : All2 P xs ds) (hy : All2 P ys ds)
    (hE : ∀ v x d, P v d → P x d → EqAt A.in1 s v x true) (hu : A.units < cLine) (h : Q (.bool false) s) : wpAny (model prog w) A (compareOp .NotEq (.ref a) (.ref b)) Q E s := by
  have i1 : s.heap.IsList a xs.toArray := ⟨_, (N _ h1).1, rfl, k1, rfl⟩
  have i2 : s.heap.IsList b ys.toArray := ⟨_, (N _ h2).1, rfl, k2, rfl⟩
  refine RcNeAt.lists (e := fun _ => true) i1 i2 (by simp [hx.length, hy.length]) hu (fun j h1 h2 => ?_) prog w E Q (by rw [all_true]; exact h)
  have g1 : j < xs.length := by simpa using h1
  have g2 : j < ys.length := by simpa using h2
  exact hE _ _ _ (by simpa using hx.get g1) (by simpa using hy.get g2)
theorem eq_all {α : Type} {P : Value → α → Prop} {ds : List α} (N : News h₀ L s.heap news) (h1 : (a, W.listOf xs.toArray k1) ∈ news) (h2 : (b, W.listOf ys.toArray k2) ∈ news) (hx : All2 P xs ds) (hy : All2 P ys ds)
    (hE : ∀ v x d, P v d → P x d → EqAt A.in1 s v x true) (hu : A.units < cLine) (h : Q (.bool true) s) : wpAny (model prog w) A (compareOp .Eq (.ref a) (.ref b)) Q E s := by
  have i1 : s.heap.IsList a xs.toArray := ⟨_, (N _ h1).1, rfl, k1, rfl⟩
  have i2 : s.heap.IsList b ys.toArray := ⟨_, (N _ h2).1, rfl, k2, rfl⟩
  refine RcAt.lists (e := fun _ => true) i1 i2 (by simp [hx.length, hy.length]) hu (fun j h1 h2 => ?_) prog w E Q (by rw [all_true]; exact h)
  have g1 : j < xs.length := by simpa using h1
  have g2 : j < ys.length := by simpa using h2
  exact hE _ _ _ (by simpa using hx.get g1) (by simpa using hy.get g2)
theorem ne_bytess {ds : List (List UInt8)} (N : News h₀ L s.heap news) (h1 : (a, W.listOf xs.toArray k1) ∈ news) (h2 : (b, W.listOf ys.toArray k2) ∈ news) (hx : All2 BytesIs xs ds) (hy : All2 BytesIs ys ds) (hu : A.units < cLine) (h : Q (.bool false) s) :
    wpAny (model prog w) A (compareOp .NotEq (.ref a) (.ref b)) Q E s := ne_all N h1 h2 hx hy (fun _ _ _ p q => eqat_is p q) hu h
theorem ne_spans {ds ds' : List SpanD} (N : News h₀ L s.heap news) (h1 : (a, W.listOf xs.toArray k1) ∈ news) (h2 : (b, W.listOf ys.toArray k2) ∈ news) (hx : All2 (SpanIn news) xs ds) (hy : All2 (SpanIn news) ys ds') (he : ds = ds') (hu : A.in1.units < cLine) (hv : A.units < cLine) (h : Q (.bool false) s) :
    wpAny (model prog w) A (compareOp .NotEq (.ref a) (.ref b)) Q E s := by
  subst he
  exact ne_all N h1 h2 hx hy (fun _ _ _ p q => eqat_span N hu p q) hv h
theorem eq_spans {ds ds' : List SpanD} (N : News h₀ L s.heap news) (h1 : (a, W.listOf xs.toArray k1) ∈ news) (h2 : (b, W.listOf ys.toArray k2) ∈ news) (hx : All2 (SpanIn news) xs ds) (hy : All2 (SpanIn news) ys ds') (he : ds = ds') (hu : A.in1.units < cLine) (hv : A.units < cLine) (h : Q (.bool true) s) :
    wpAny (model prog w) A (compareOp .Eq (.ref a) (.ref b)) Q E s := by
  subst he
  exact eq_all N h1 h2 hx hy (fun _ _ _ p q => eqat_span N hu p q) hv h
end
theorem off_15 : True := by
  w_top off
  trivial
section
variable {prog : Program} {w : World} {A : Around} {E : Value → Shared → Prop} {Q : Flow → Shared → Prop} {s : Shared} {env : Env} {h₀ : Heap}
/-- a for over a made tuple, by a state of one's own -/
theorem iter_tup {σ : Type} {x : Str} {px : Pos} {body : List Stmt} {l : Addr} {xs : List Value} {kx : Nat} {m₀ : Str → Option Value} (Led : σ → List (Addr × Obj)) (ps : σ → List (Str × Value)) (stored : List Str) (Inv : Nat → σ → Prop) (c₀ : σ)
    (hh : A.handled = none) (hl : ∀ c, (l, tupOf xs kx) ∈ Led c) (F : Fr h₀ env.locals s.heap m₀) (N : News h₀ env.locals s.heap (Led c₀)) (hk : ∀ p ∈ ps c₀, m₀ p.1 = some p.2) (hp : Inv 0 c₀)
    (turn : ∀ i v (c : σ) (u : Str → Option Value) h tk I o, xs[i]? = some v → Inv i c → (∀ p ∈ Led c, p.1 ≠ I) → Fr h₀ env.locals h (kstB (fun z => if stored.contains z then u z else m₀ z) (ps c)) → News h₀ env.locals h ((I, o) :: Led c) →
      wpAny (model prog w) A (assign (.Name x px) env v) (fun _ s₂ => wpAny (model prog w) A (execs body env) (FwPost h₀ env.locals { s with heap := h, toks := tk } I o Led ps stored m₀ (Inv (i + 1)) Q) E s₂) E { s with heap := h, toks := tk })
    (done : ∀ (c : σ) (u : Str → Option Value) h tk, Inv xs.length c → Fr h₀ env.locals h (kstB (fun z => if stored.contains z then u z else m₀ z) (ps c)) → News h₀ env.locals h (Led c) → Q .next { s with heap := h, toks := tk })
    (hE : PassesOwn (model prog w) A env E := by passes_own) : wpAny (model prog w) A (pyIter (.ref l)) (fun it s₂ => ForAt prog w A env (.Name x px) body Q E it s₂) E s := by
  have hol := (N _ (hl c₀)).1
  have hls : s.heap.IsTuple l xs.toArray := ⟨_, hol, rfl, kx, rfl⟩
  have hne : l ≠ s.heap.objs.size := Nat.ne_of_lt (Heap.lt_size hol)
  refine wpAny_pyIter_tuple hls ?_
  have W := Walks.tuple (prog := prog) (w := w) hh s.heap.objs.size l hne xs.toArray
  have hsz : xs.toArray.size = xs.length := by simp
  rw [hsz] at W
  refine for_walk W Led ps stored Inv c₀ ?_ ?_ ?_ ?_ (next_new F) ?_ ⟨⟨_, Heap.get?_push_size _ rfl, rfl, rfl⟩, ⟨_, Heap.get?_push_of_some _ hol, rfl, kx, rfl⟩⟩ (F.push _) (fun p hp => ⟨Heap.get?_push_of_some _ (N p hp).1, (N p hp).2⟩) hk hp ?_ ?_ hE
  · intro i v s' Q' E' hP hS hQ
    exact wpAny_of_eq (a := ()) rfl hQ
  · intro b hb hbI
    rcases List.mem_cons.mp hb with h | h
    · exact absurd h hbI
    · rw [List.mem_singleton.mp h]; exact ⟨_, hl⟩
  · rintro i h ⟨⟨o, ho, _⟩, _⟩
    exact ⟨o, ho⟩
  · exact Ne.symm (Nat.ne_of_lt F.ns.lt)
  · intro p hp
    exact Nat.ne_of_lt (Heap.lt_size (N p hp).1)
  · intro i v c u h tk o hi hP hJ hne' F' N'
    exact turn i v c u h tk _ o (by simpa using hP) hJ hne' F' N'
  · exact done
structure BdS where
  bv : List Value
  bk : Nat
  X : List (Addr × Obj)
/-- a made list of these bytes -/
def BytesL (nx : List (Addr × Obj)) (ps : List (List UInt8)) (v : Value) : Prop := ∃ a xs k, v = .ref a ∧ (a, W.listOf xs.toArray k) ∈ nx ∧ All2 BytesIs xs ps
def endsMenu : List (List (List UInt8)) := [[[13, 10]], [[10]], [[13, 10], [10], [10]]]
def BdInv (X₀ : List (Addr × Obj)) (bd : Addr) (ps : List (List UInt8)) (i : Nat) (c : BdS) : Prop := (∀ p ∈ X₀, p ∈ c.X) ∧ c.bv.length = i ∧ (∀ v ∈ c.bv, BytesL c.X ps v) ∧ OwnOff c.X [bd]
def EndsEnd (h₀ : Heap) (L : Addr) (s : Shared) (I bd T : Addr) (o oT : Obj) (bv : List Value) (X : List (Addr × Obj)) (ps : List (List UInt8)) (stored : List Str) (m₀ : Str → Option Value) (s₃ : Shared) : Prop :=
  ∃ (h' : Heap) (tk' : Nat) (m' : Str → Option Value) (all' : List (Addr × Obj)) (nb : Addr) (ys : List Value) (k k' : Nat), s₃ = { s with heap := h', toks := tk' } ∧ Fr h₀ L h' m' ∧ News h₀ L h' all' ∧ (I, o) ∈ all' ∧ (bd, W.listOf (bv ++ [Value.ref nb]).toArray k') ∈ all' ∧ (T, oT) ∈ all' ∧ (nb, W.listOf ys.toArray k) ∈ all' ∧
    (∀ p ∈ X, p ∈ all') ∧ All2 BytesIs ys ps ∧ @Ne Nat nb I ∧ @Ne Nat nb bd ∧ Same stored m₀ m'
theorem law_ends {x : Str} {px : Pos} {body : List Stmt} {T e1 e2 e3 bd rw cell : Addr} {oc : Obj} {rv : List Value} {rk n n1 n2 n3 : Nat} {t1 t2 t3 t4 t5 : Tok} {all tl : List (Addr × Obj)} {rows : List RowL} {m₀ : Str → Option Value} {cv : Option Value}
    (ps : List (List UInt8)) (stored : List Str) (hh : A.handled = none) (F : Fr h₀ env.locals s.heap m₀) (N : News h₀ env.locals s.heap all)
    (hT : (T, tupOf [.ref e1, .ref e2, .ref e3] n) ∈ all) (h1 : (e1, tupOf [.bytes [13, 10].toArray t1] n1) ∈ all) (h2 : (e2, tupOf [.bytes [10].toArray t2] n2) ∈ all) (h3 : (e3, tupOf [.bytes [13, 10].toArray t3, .bytes [10].toArray t4, .bytes [10].toArray t5] n3) ∈ all)
    (hbd : (bd, W.listOf #[] 0) ∈ all) (hrw : (rw, W.listOf rv.toArray rk) ∈ all) (hoc : oc.data = Data.cell cv) (hcell : (cell, oc) ∈ all) (htl : ∀ p ∈ tl, p ∈ all) (hrv : All2 (RowLIn tl) rv rows)
    (hne : @Ne Nat e1 bd ∧ @Ne Nat e2 bd ∧ @Ne Nat e3 bd ∧ @Ne Nat rw bd ∧ @Ne Nat cell bd ∧ @Ne Nat T bd) (hoff : ∀ p ∈ tl, p.1 ≠ bd)
    (turn : ∀ ea es ne ends bv bk X (u : Str → Option Value) h tk I o, ends ∈ endsMenu → (ea, tupOf es ne) ∈ X → All2 BytesIs es ends → (rw, W.listOf rv.toArray rk) ∈ X → (cell, oc) ∈ X → All2 (RowLIn X) rv rows → bv.length ≤ 2 → (∀ v ∈ bv, BytesL X ps v) →
      (@Ne Nat bd I ∧ @Ne Nat T I ∧ @Ne Nat T bd) → OwnOff X [bd, I] → Fr h₀ env.locals h (fun z => if stored.contains z then u z else m₀ z) → News h₀ env.locals h ((I, o) :: (bd, W.listOf bv.toArray bk) :: (T, tupOf [.ref e1, .ref e2, .ref e3] n) :: X) →
      wpAny (model prog w) A (assign (.Name x px) env (.ref ea)) (fun _ s₂ => wpAny (model prog w) A (execs body env) (fun f s₃ => match f with
        | .ret v => Q (.ret v) s₃
        | .brk => Q .next s₃
        | _ => EndsEnd h₀ env.locals s I bd T o (tupOf [.ref e1, .ref e2, .ref e3] n) bv X ps stored m₀ s₃) E s₂) E { s with heap := h, toks := tk })
    (done : ∀ v0 v1 v2 bk X (u : Str → Option Value) h tk, BytesL X ps v0 → BytesL X ps v1 → BytesL X ps v2 → OwnOff X [bd] → (cell, oc) ∈ X → Fr h₀ env.locals h (fun z => if stored.contains z then u z else m₀ z) → News h₀ env.locals h ((bd, W.listOf #[v0, v1, v2] bk) :: X) → Q .next { s with heap := h, toks := tk })
    (hE : PassesOwn (model prog w) A env E := by passes_own) : wpAny (model prog w) A (pyIter (.ref T)) (fun it s₂ => ForAt prog w A env (.Name x px) body Q E it s₂) E s := by
  obtain ⟨X₀, hX₀⟩ : ∃ X₀, X₀ = (e1, tupOf [.bytes [13, 10].toArray t1] n1) :: (e2, tupOf [.bytes [10].toArray t2] n2) :: (e3, tupOf [.bytes [13, 10].toArray t3, .bytes [10].toArray t4, .bytes [10].toArray t5] n3) :: (rw, W.listOf rv.toArray rk) :: (cell, oc) :: tl := ⟨_, rfl⟩
  have hsub : ∀ p ∈ X₀, p ∈ all := by
    intro p hp
    rw [hX₀] at hp
    simp only [List.mem_cons] at hp
    rcases hp with rfl | rfl | rfl | rfl | rfl | hp
    · exact h1
    · exact h2
    · exact h3
    · exact hrw
    · exact hcell
    · exact htl _ hp
  have hoff₀ : OwnOff X₀ [bd] := by
    intro p hp b hb
    rw [List.mem_singleton.mp hb]
    rw [hX₀] at hp
    simp only [List.mem_cons] at hp
    rcases hp with rfl | rfl | rfl | rfl | rfl | hp
    · exact hne.1
    · exact hne.2.1
    · exact hne.2.2.1
    · exact hne.2.2.2.1
    · exact hne.2.2.2.2.1
    · exact hoff _ hp
  refine iter_tup (σ := BdS) (xs := [.ref e1, .ref e2, .ref e3]) (kx := n) (fun c => (bd, W.listOf c.bv.toArray c.bk) :: (T, tupOf [.ref e1, .ref e2, .ref e3] n) :: c.X) (fun _ => []) stored (BdInv X₀ bd ps) ⟨[], 0, X₀⟩ hh (fun c => .tail _ (.head _)) F (fun p hp => N p ?_) (List.forall_mem_nil _) ⟨fun _ h => h, rfl, List.forall_mem_nil _, hoff₀⟩ ?_ ?_ hE
  · simp only [List.mem_cons] at hp
    rcases hp with rfl | rfl | hp
    · exact hbd
    · exact hT
    · exact hsub _ hp
  · rintro i v ⟨bv, bk, X⟩ u h tk I o hv ⟨hX, hlen, hb, hof⟩ hneI F' N'
    dsimp only [kstB] at *
    obtain ⟨ea, es, ne, ends, hve, hem, hea, hes⟩ : ∃ ea es ne ends, v = .ref ea ∧ ends ∈ endsMenu ∧ (ea, tupOf es ne) ∈ X ∧ All2 BytesIs es ends := by
      have hi : i < 3 := (List.getElem?_eq_some_iff.mp hv).1
      obtain rfl | rfl | rfl : i = 0 ∨ i = 1 ∨ i = 2 := by omega
      · exact ⟨e1, _, _, _, by simpa using hv.symm, .head _, hX _ (by rw [hX₀]; exact .head _), .cons ⟨_, rfl⟩ .nil⟩
      · exact ⟨e2, _, _, _, by simpa using hv.symm, .tail _ (.head _), hX _ (by rw [hX₀]; exact .tail _ (.head _)), .cons ⟨_, rfl⟩ .nil⟩
      · exact ⟨e3, _, _, _, by simpa using hv.symm, .tail _ (.tail _ (.head _)), hX _ (by rw [hX₀]; exact .tail _ (.tail _ (.head _))), .cons ⟨_, rfl⟩ (.cons ⟨_, rfl⟩ (.cons ⟨_, rfl⟩ .nil))⟩
    subst hve
    have hi : i < 3 := (List.getElem?_eq_some_iff.mp hv).1
    refine wpAny_mono (turn ea es ne ends bv bk X u h tk I o hem hea hes (hX _ (by rw [hX₀]; exact .tail _ (.tail _ (.tail _ (.head _))))) (hX _ (by rw [hX₀]; exact .tail _ (.tail _ (.tail _ (.tail _ (.head _)))))) (hrv.mono fun _ _ r => r.mono fun p hp => hX _ (by rw [hX₀]; exact .tail _ (.tail _ (.tail _ (.tail _ (.tail _ hp))))))
      (by omega) hb ⟨hneI _ (.head _), hneI _ (.tail _ (.head _)), hne.2.2.2.2.2⟩ (fun p hp b hb => ?_) F' N') (fun _ s₂ h₂ => ?_) fun _ _ e => e
    · rcases List.mem_cons.mp hb with rfl | hb
      · exact hof p hp _ (.head _)
      · rw [List.mem_singleton.mp hb]; exact hneI _ (.tail _ (.tail _ hp))
    · refine wpAny_mono h₂ (fun f s₃ h₃ => ?_) fun _ _ e => e
      have fin : (EndsEnd h₀ env.locals s I bd T o (tupOf [.ref e1, .ref e2, .ref e3] n) bv X ps stored m₀ s₃) →
          FwEnd h₀ env.locals { s with heap := h, toks := tk } I o (fun c : BdS => (bd, W.listOf c.bv.toArray c.bk) :: (T, tupOf [.ref e1, .ref e2, .ref e3] n) :: c.X) (fun _ => []) stored m₀ (BdInv X₀ bd ps (i + 1)) s₃ := by
        rintro ⟨h', tk', m', all', nb, ys, k, k', rfl, F₃, N₃, hI₃, hb₃, hT₃, hn₃, hX₃, hy₃, hnI, hnb, hsame⟩
        refine ⟨⟨bv ++ [Value.ref nb], k', (nb, W.listOf ys.toArray k) :: X⟩, h', tk', m', all', rfl, F₃, N₃, hI₃, ?_, ?_, List.forall_mem_nil _, fun z _ hz => hsame z hz, ⟨fun p hp => .tail _ (hX p hp), ?_, ?_, ?_⟩⟩
        · dsimp only
          intro p hp
          simp only [List.mem_cons] at hp
          rcases hp with rfl | rfl | rfl | hp
          · exact hb₃
          · exact hT₃
          · exact hn₃
          · exact hX₃ _ hp
        · dsimp only
          intro p hp
          simp only [List.mem_cons] at hp
          rcases hp with rfl | rfl | rfl | hp
          · exact hneI (bd, W.listOf bv.toArray bk) (.head _)
          · exact hneI _ (.tail _ (.head _))
          · exact hnI
          · exact hneI _ (.tail _ (.tail _ hp))
        · dsimp only
          rw [List.length_append, hlen]; rfl
        · dsimp only
          intro v hv
          rcases List.mem_append.mp hv with hv | hv
          · obtain ⟨a, xs, k, e, hm, hA⟩ := hb v hv
            exact ⟨a, xs, k, e, .tail _ hm, hA⟩
          · rw [List.mem_singleton.mp hv]
            exact ⟨nb, ys, k, rfl, .head _, hy₃⟩
        · dsimp only
          intro p hp b hb
          rw [List.mem_singleton.mp hb]
          rcases List.mem_cons.mp hp with rfl | hp
          · exact hnb
          · exact hof p hp _ (.head _)
      cases f with
      | ret v => exact h₃
      | brk => exact h₃
      | next => exact fin h₃
      | cont => exact fin h₃
  · rintro ⟨bv, bk, X⟩ u h tk ⟨hX, hlen, hb, hof⟩ F' N'
    dsimp only [kstB] at *
    obtain ⟨v0, v1, v2, rfl⟩ : ∃ v0 v1 v2, bv = [v0, v1, v2] := by
      match bv, hlen with
      | [a, b, c], _ => exact ⟨a, b, c, rfl⟩
    refine done v0 v1 v2 bk X u h tk (hb _ (.head _)) (hb _ (.tail _ (.head _))) (hb _ (.tail _ (.tail _ (.head _)))) hof (hX _ (by rw [hX₀]; exact .tail _ (.tail _ (.tail _ (.tail _ (.head _)))))) F' (fun p hp => N' p ?_)
    rcases List.mem_cons.mp hp with rfl | hp
    · exact .head _
    · exact .tail _ (.tail _ hp)
end
theorem off_16 : True := by
  w_top off
  trivial
section
variable {prog : Program} {w : World} {A : Around} {E : Value → Shared → Prop} {s : Shared} {h₀ : Heap} {L a : Addr} {news : List (Addr × Obj)} {es : List Value} {ends : List (List UInt8)} {n : Nat} {u : Tok} {value slice : PySem.Expr}
theorem item0T {Q : Value → Shared → Prop} {e0 : List UInt8} (N : News h₀ L s.heap news) (hm : (a, tupOf es n) ∈ news) (hes : All2 BytesIs es ends) (hz : ends.length ≤ 1000) (h1 : 1 ≤ ends.length) (he : ends.getD 0 [] = e0) (h : ∀ t, Q (.bytes e0.toArray t) s)
    (hs : subscripted slice false (.ref a) (.int 0 u) = operate [.ref a, .int 0 u] (getItem (.ref a) (.int 0 u)) := by with_unfolding_all rfl) :
    wpAny (model prog w) A (subscriptTail value slice (.ref a) (.int 0 u)) Q E s :=
  itemTup_L N hm hes hz (by omega) (by omega) (fun t => by subst he; exact h t) hs
theorem ne_int_same {Q : Value → Shared → Prop} {x y : Int} {t t' : Tok} (e : x = y) (h : Q (.bool false) s) : wpAny (model prog w) A (compareOp .NotEq (.int x t) (.int y t')) Q E s := by
  subst e
  refine compareOp_gives (op := .NotEq) (typeIs_int s x t) (typeIs_int s x t') PySem.F.slot_int_ne PySem.F.entry_int_ne (PySem.F.args_int_ne_2 _ _) (gives_int_ne x x t t') (fun e => nomatch e) (show Q (.bool (x != x)) s from by simpa using h)
theorem join_int {x : PySem.Expr} {env : Env} {Q : Value → Shared → Prop} (n : Int) (h1 : ∀ Q' : Value → Shared → Prop, (∀ t k, Q' (.int n t) { s with toks := k }) → wpAny (model prog w) A (eval x env) Q' E s) (h : ∀ t k, Q (.int n t) { s with toks := k }) :
    wpAny (model prog w) A (eval x env) Q E s := h1 Q h
end
theorem comp_end0 {D : Type} {h₀ h' : Heap} {L I C Da : Addr} {m : Str → Option Value} {s₁ : Shared} {oI oC oD : Obj} {S : List (Addr × Obj) → Prop} {G : List (Addr × Obj) → Value → D → Prop} {all news tl : List (Addr × Obj)} {d : D} {y : Value} {tk : Nat}
    (F : Fr h₀ L h' m) (N : News h₀ L h' all) (sub : ∀ p ∈ (I, oI) :: (C, oC) :: (Da, oD) :: (news ++ tl), p ∈ all) (off : LCg.Off3 I C Da (news ++ tl)) (ha : Apart news tl) (hS : S (news ++ tl)) (hG : G tl y d) :
    LCg.CompEnd h₀ L m s₁ I oI C oC Da oD S (CompTurn G news tl d) y { s₁ with heap := h', toks := tk } :=
  LCg.CompEnd.intro F N (news ++ tl) sub off hS ⟨tl, rfl, fun _ h => h, ha, hG⟩
theorem All2.conv {α β : Type} {G : Value → α → Prop} {H : Value → β → Prop} : ∀ {ys : List Value} {ds : List α} {bs : List β}, All2 G ys ds → ds.length = bs.length → (∀ i (h1 : i < ds.length) (h2 : i < bs.length) y, G y ds[i] → H y bs[i]) → All2 H ys bs
  | [], [], [], _, _, _ => .nil
  | _ :: _, _ :: _, _ :: _, .cons h r, hl, k => .cons (k 0 (by simp) (by simp) _ h) (All2.conv r (by simpa using hl) fun i h1 h2 y g => k (i + 1) (Nat.succ_lt_succ h1) (Nat.succ_lt_succ h2) y g)
theorem rowin_up {w : World} {X Y : List (Addr × Obj)} {rv : List Value} {rows : List RowD} (h : All2 (RowIn w X) rv rows) (s : ∀ p ∈ X, p ∈ Y) : All2 (RowIn w Y) rv rows := h.mono fun _ _ r => r.mono s
theorem spans_up {X Y : List (Addr × Obj)} {rv : List Value} {rows : List SpanD} (h : All2 (SpanIn X) rv rows) (s : ∀ p ∈ X, p ∈ Y) : All2 (SpanIn Y) rv rows := h.mono fun _ _ r => r.mono s
theorem seen_rel {w : World} {news : List (Addr × Obj)} {a : Addr} {xs : List Value} {k : Nat} {rows : List RowD} (h1 : (a, W.listOf xs.toArray k) ∈ news) (h2 : All2 (RowIn w news) xs rows) : (seenT w).Rel news [.ref a] ⟨rows⟩ := ⟨a, xs, k, rfl, h1, h2⟩
theorem rows_up {X Y : List (Addr × Obj)} {rv : List Value} {rows : List RowL} (h : All2 (RowLIn X) rv rows) (s : ∀ p ∈ X, p ∈ Y) : All2 (RowLIn Y) rv rows := h.mono fun _ _ r => r.mono s
local macro_rules | `(tactic| walk_at "m:in") => `(tactic| first | assumption | (refine List.mem_cons_of_mem _ ?_; walk_at "m:in") | (refine List.mem_append_left _ ?_; walk_at "m:in") | (refine List.mem_append_right _ ?_; walk_at "m:in"))
theorem off_17 : True := by
  w_top off
  trivial
def names3 : List (List UInt8) := [[84, 111], [88, 45, 49], [33]]
def firsts4 : List (List UInt8) := [[32, 97], [], [98, 58, 32, 99], [233, 32]]
def conts4 : List (List UInt8) := [[32, 100], [9], [32, 101, 58, 102], [32, 32]]
/-- a row that the law builds -/
def RowOk (r : RowL) : Prop := r.1 ∈ names3 ∧ ∃ l ls, r.2 = l :: ls ∧ l ∈ firsts4 ∧ (∀ x ∈ ls, x ∈ conts4) ∧ ls.length ≤ 2
def shift (k : Int) (x : SpanD) : SpanD := (x.1, x.2.1 + k, x.2.2 + k)
def behindOf (e0 : List UInt8) (d : Nat) : List UInt8 := [[], e0 ++ [122, 58, 32, 121] ++ e0, [110, 111, 32, 102, 105, 101, 108, 100] ++ e0, [58, 32, 120] ++ e0].getD d []
def dueOf (e0 : List UInt8) (d : Nat) : Int := if d = 1 then (e0.length : Int) else 0
theorem get_pre {α : Type} (pre x : List α) (j : Nat) : (pre ++ x)[pre.length + j]? = x[j]? := by
  rw [List.getElem?_append_right (by omega)]
  congr 1
  omega
theorem ext1 (l : List UInt8) (c : UInt8) (i : Nat) : (l.toArray.extract i (i + 1) == #[c]) = true ↔ l[i]? = some c := by
  rw [beq_iff_eq]
  have e : l.toArray.extract i (i + 1) = ((l.drop i).take 1).toArray := by
    simp [List.extract_eq_take_drop]
  rw [e, show l[i]? = (l.drop i)[0]? by simp]
  cases l.drop i with
  | nil => simp
  | cons x r => simp
theorem fndL_at {l : List UInt8} {c : UInt8} {a n hi : Nat} (h1 : a + n < hi) (hc : l[a + n]? = some c) (hn : ∀ j, j < n → l[a + j]? ≠ some c) : fndL l c (a : Int) (hi : Int) = ((a + n : Nat) : Int) := by
  unfold fndL fnd
  rw [if_neg (by omega)]
  simp only [Option.bind_some, Int.toNat_natCast]
  have e : Builtin.Bytes.find? l.toArray #[c] a hi = some (a + n) := by
    unfold Builtin.Bytes.find?
    rw [List.find?_map]
    have e2 : (List.range (hi + 1 - (a + #[c].size))).find? ((fun i => l.toArray.extract i (i + #[c].size) == #[c]) ∘ fun x => x + a) = some n := by
      rw [List.find?_range_eq_some]
      refine ⟨?_, ?_, fun j hj => ?_⟩
      · show (l.toArray.extract (n + a) (n + a + 1) == #[c]) = true
        rw [ext1, Nat.add_comm]; exact hc
      · rw [List.mem_range]; simp; omega
      · show (!(l.toArray.extract (j + a) (j + a + 1) == #[c])) = true
        rw [Bool.not_eq_true', ← Bool.not_eq_true, ext1, Nat.add_comm]; exact hn j hj
    rw [e2]
    simp [Nat.add_comm]
  rw [e]
theorem fndL_no {l : List UInt8} {c : UInt8} {a hi : Nat} (hn : ∀ j, a + j < hi → l[a + j]? ≠ some c) : fndL l c (a : Int) (hi : Int) = -1 := by
  unfold fndL fnd
  by_cases h : (hi : Int) - a < 1
  · rw [if_pos h]; rfl
  · rw [if_neg h]
    simp only [Option.bind_some, Int.toNat_natCast]
    have e : Builtin.Bytes.find? l.toArray #[c] a hi = none := by
      unfold Builtin.Bytes.find?
      rw [List.find?_map]
      have e2 : (List.range (hi + 1 - (a + #[c].size))).find? ((fun i => l.toArray.extract i (i + #[c].size) == #[c]) ∘ fun x => x + a) = none := by
        rw [List.find?_eq_none]
        intro j hj
        rw [List.mem_range] at hj
        simp at hj
        show ¬ (l.toArray.extract (j + a) (j + a + 1) == #[c]) = true
        rw [ext1, Nat.add_comm]
        exact hn j (by omega)
      rw [e2]; rfl
    rw [e]
theorem fnd_split {l pre mid rest : List UInt8} {c : UInt8} {hi : Nat} (hl : l = pre ++ (mid ++ c :: rest)) (hm : c ∉ mid) (hh : pre.length + mid.length < hi) : fndL l c (pre.length : Int) (hi : Int) = ((pre.length + mid.length : Nat) : Int) := by
  subst hl
  refine fndL_at hh ?_ fun j hj => ?_
  · rw [get_pre, show mid.length = mid.length + 0 from rfl, get_pre]; rfl
  · rw [get_pre, List.getElem?_append_left hj, List.getElem?_eq_getElem hj]
    intro e
    exact hm (Option.some.inj e ▸ List.getElem_mem hj)
theorem fnd_none {l pre mid rest : List UInt8} {c : UInt8} {hi : Nat} (hl : l = pre ++ (mid ++ rest)) (hm : c ∉ mid) (hh : hi = pre.length + mid.length) : fndL l c (pre.length : Int) (hi : Int) = -1 := by
  subst hl
  refine fndL_no fun j hj => ?_
  have hj' : j < mid.length := by omega
  rw [get_pre, List.getElem?_append_left hj', List.getElem?_eq_getElem hj']
  intro e
  exact hm (Option.some.inj e ▸ List.getElem_mem hj')
def Term (t : List UInt8) : Prop := t = [13, 10] ∨ t = [10]
/-- octets of one row -/
def Flat (x : List UInt8) : Prop := (10 : UInt8) ∉ x ∧ (13 : UInt8) ∉ x
theorem lineAt_term {l pre line term rest : List UInt8} {hi : Nat} (hl : l = pre ++ (line ++ (term ++ rest))) (hx : Flat line) (ht : Term term) (hh : pre.length + line.length + term.length ≤ hi) :
    lineAt l (pre.length : Int) (hi : Int) = (((pre.length + line.length : Nat) : Int), ((pre.length + line.length + term.length : Nat) : Int)) := by
  rcases ht with rfl | rfl
  · have e1 : l = pre ++ ((line ++ [13]) ++ 10 :: rest) := by rw [hl]; simp
    have hf := fnd_split (c := 10) (hi := hi) e1 (by simp [hx.1]) (by simp at hh ⊢; omega)
    unfold lineAt
    rw [hf]
    have hg : (l.getD ((((pre.length + (line ++ [13]).length : Nat) : Int) - 1).toNat) 0).toNat = 13 := by
      have e2 : (((pre.length + (line ++ [13]).length : Nat) : Int) - 1).toNat = pre.length + line.length := by simp; omega
      rw [e2, List.getD_eq_getElem?_getD, hl, get_pre, show line.length = line.length + 0 from rfl, get_pre]
      rfl
    rw [if_neg (by omega), if_pos ⟨by simp; omega, hg⟩]
    simp
    omega
  · have e1 : l = pre ++ (line ++ 10 :: rest) := by rw [hl]; simp
    have hf := fnd_split (c := 10) (hi := hi) e1 hx.1 (by simp at hh ⊢; omega)
    unfold lineAt
    rw [hf, if_neg (by omega), if_neg]
    · simp
    · rintro ⟨h1, h2⟩
      have hj : line.length - 1 < line.length := by omega
      have e2 : (((pre.length + line.length : Nat) : Int) - 1).toNat = pre.length + (line.length - 1) := by omega
      rw [e2, List.getD_eq_getElem?_getD, hl, get_pre, List.getElem?_append_left hj, List.getElem?_eq_getElem hj] at h2
      have h3 : line[line.length - 1] = 13 := UInt8.toNat_inj.mp h2
      exact hx.2 (h3 ▸ List.getElem_mem hj)
theorem lineAt_end {l pre line rest : List UInt8} {hi : Nat} (hl : l = pre ++ (line ++ rest)) (hx : Flat line) (hh : hi = pre.length + line.length) : lineAt l (pre.length : Int) (hi : Int) = ((hi : Int), (hi : Int)) := by
  unfold lineAt
  rw [fnd_none hl hx.1 hh]
  rfl
/-- a line and what ends it -/
abbrev LT := List UInt8 × List UInt8
def full (lts : List LT) : List UInt8 := (lts.map fun x => x.1 ++ x.2).flatten
def rawOf : List LT → List UInt8
  | [] => []
  | [x] => x.1
  | x :: y :: r => x.1 ++ x.2 ++ rawOf (y :: r)
def lastT : List LT → List UInt8
  | [] => []
  | [x] => x.2
  | _ :: y :: r => lastT (y :: r)
theorem full_cons (x : LT) (r : List LT) : full (x :: r) = x.1 ++ x.2 ++ full r := by unfold full; simp
theorem full_raw : ∀ (x : LT) (r : List LT), full (x :: r) = rawOf (x :: r) ++ lastT (x :: r)
  | x, [] => by simp [full, rawOf, lastT]
  | x, y :: r => by
    rw [full_cons, full_raw y r]
    simp [rawOf, lastT]
/-- a row's name and its lines with what ends them -/
abbrev RT := List UInt8 × List LT
def rowTxt (x : RT) : List UInt8 := x.1 ++ (58 :: full x.2)
def txt (xs : List RT) : List UInt8 := (xs.map rowTxt).flatten
theorem txt_cons (x : RT) (r : List RT) : txt (x :: r) = rowTxt x ++ txt r := by unfold txt; simp
def plainRow (x : RT) : RowL := (x.1, x.2.map Prod.fst)
def spansAt : Nat → List RT → List SpanD
  | _, [] => []
  | n, x :: r => (x.1, (n : Int), ((n + (rowTxt x).length : Nat) : Int)) :: spansAt (n + (rowTxt x).length) r
theorem lay_lines {ends : List (List UInt8)} (h1 : ends ≠ []) (ht : ∀ e ∈ ends, Term e) : ∀ (ls : List (List UInt8)) (o : List UInt8), ∃ lts : List LT, lts.map Prod.fst = ls ∧ (∀ x ∈ lts, Term x.2) ∧ ls.foldl (addLine ends) o = o ++ full lts
  | [], o => ⟨[], rfl, fun _ h => (nomatch h), by simp [full]⟩
  | l :: ls, o => by
    obtain ⟨lts, e1, e2, e3⟩ := lay_lines h1 ht ls (addLine ends o l)
    have hp : 0 < ends.length := List.length_pos_iff.mpr h1
    have hm : o.length % ends.length < ends.length := Nat.mod_lt _ hp
    have hg : ends.getD (o.length % ends.length) [] ∈ ends := by
      rw [List.getD_eq_getElem?_getD, List.getElem?_eq_getElem hm]
      exact List.getElem_mem hm
    refine ⟨(l, ends.getD (o.length % ends.length) []) :: lts, by rw [List.map_cons, e1], List.forall_mem_cons.mpr ⟨ht _ hg, e2⟩, ?_⟩
    rw [List.foldl_cons, e3, full_cons]
    unfold addLine
    simp
theorem lay_rows {ends : List (List UInt8)} (h1 : ends ≠ []) (ht : ∀ e ∈ ends, Term e) : ∀ (rows : List RowL) (o : List UInt8) (sp : List SpanD), ∃ xs : List RT, xs.map plainRow = rows ∧ (∀ x ∈ xs, ∀ y ∈ x.2, Term y.2) ∧ rows.foldl (layStep ends) (o, sp) = (o ++ txt xs, sp ++ spansAt o.length xs)
  | [], o, sp => ⟨[], rfl, fun _ h => (nomatch h), by simp [txt, spansAt]⟩
  | r :: rows, o, sp => by
    obtain ⟨lts, e1, e2, e3⟩ := lay_lines h1 ht r.2 (o ++ r.1 ++ [58])
    have hx : layRow ends o r = o ++ rowTxt (r.1, lts) := by
      unfold layRow
      rw [e3]
      simp [rowTxt]
    have hl : (layRow ends o r).length = o.length + (rowTxt (r.1, lts)).length := by rw [hx, List.length_append]
    obtain ⟨xs, f1, f2, f3⟩ := lay_rows h1 ht rows (layRow ends o r) (sp ++ [(r.1, (o.length : Int), ((layRow ends o r).length : Int))])
    refine ⟨(r.1, lts) :: xs, by rw [List.map_cons, f1]; simp [plainRow, e1], List.forall_mem_cons.mpr ⟨e2, f2⟩, ?_⟩
    rw [List.foldl_cons]
    show rows.foldl (layStep ends) (layRow ends o r, sp ++ [(r.1, (o.length : Int), ((layRow ends o r).length : Int))]) = _
    rw [f3, hl, hx, txt_cons]
    simp [spansAt]
theorem laid_txt {ends : List (List UInt8)} (h1 : ends ≠ []) (ht : ∀ e ∈ ends, Term e) (rows : List RowL) : ∃ xs : List RT, xs.map plainRow = rows ∧ (∀ x ∈ xs, ∀ y ∈ x.2, Term y.2) ∧ laid ends rows = (txt xs, spansAt 0 xs) := by
  obtain ⟨xs, e1, e2, e3⟩ := lay_rows h1 ht rows [] []
  exact ⟨xs, e1, e2, by unfold laid; rw [e3]; simp⟩
theorem term_pos {t : List UInt8} (h : Term t) : 1 ≤ t.length ∧ t.length ≤ 2 := by rcases h with rfl | rfl <;> simp
/-- a line that begins white -/
def Cont (x : List UInt8) : Prop := ∃ c r, x = c :: r ∧ isWhite c
theorem cutL_nat {l pre mid rest : List UInt8} (hl : l = pre ++ (mid ++ rest)) : cutL l (pre.length : Int) ((pre.length + mid.length : Nat) : Int) = mid := by
  subst hl
  unfold cutL
  rw [Int.toNat_natCast, Int.toNat_natCast, List.drop_left, Nat.add_sub_cancel_left, List.take_left]
theorem white_lines {l : List UInt8} {hi : Nat} (rest : List UInt8) : ∀ (lts : List LT) (x : LT) (pre : List UInt8) (last later : Int) (q : Int × Int), l = pre ++ (full (x :: lts) ++ rest) → last = ((pre.length + x.1.length : Nat) : Int) → later = ((pre.length + x.1.length + x.2.length : Nat) : Int) →
    (∀ y ∈ lts, Flat y.1 ∧ Cont y.1 ∧ Term y.2) → pre.length + (full (x :: lts)).length ≤ hi → ¬ (pre.length + (full (x :: lts)).length < hi ∧ isWhite (l.getD (pre.length + (full (x :: lts)).length) 0)) → White l (hi : Int) last later q →
    q = (((pre.length + (rawOf (x :: lts)).length : Nat) : Int), ((pre.length + (full (x :: lts)).length : Nat) : Int))
  | [], x, pre, last, later, q, hl, h1, h2, _, hh, hb, hw => by
    have e : later = ((pre.length + (full [x]).length : Nat) : Int) := by rw [h2, full_cons]; simp [full]; omega
    cases hw with
    | stop _ => rw [h1, e]; rfl
    | more a b _ =>
      rw [e] at a b
      rw [Int.toNat_natCast] at b
      exact absurd ⟨by omega, b⟩ hb
  | y :: lts, x, pre, last, later, q, hl, h1, h2, hy, hh, hb, hw => by
    obtain ⟨yf, yc, yt⟩ := hy y List.mem_cons_self
    have ep : (pre ++ (x.1 ++ x.2)).length = pre.length + x.1.length + x.2.length := by simp; omega
    have hl2 : l = (pre ++ (x.1 ++ x.2)) ++ (full (y :: lts) ++ rest) := by rw [hl, full_cons x]; simp
    have ef : pre.length + (full (x :: y :: lts)).length = (pre ++ (x.1 ++ x.2)).length + (full (y :: lts)).length := by rw [full_cons x]; simp; omega
    have el : later = (((pre ++ (x.1 ++ x.2)).length : Nat) : Int) := by rw [ep]; exact h2
    have ly : (full (y :: lts)).length = y.1.length + y.2.length + (full lts).length := by rw [full_cons, List.length_append, List.length_append]
    have ty := term_pos yt
    have hl3 : l = (pre ++ (x.1 ++ x.2)) ++ (y.1 ++ (y.2 ++ (full lts ++ rest))) := by rw [hl2, full_cons y]; simp
    cases hw with
    | stop a =>
      refine absurd ⟨by rw [el]; omega, ?_⟩ a
      obtain ⟨c, r, ec, hc⟩ := yc
      rw [el, Int.toNat_natCast, List.getD_eq_getElem?_getD, hl3, show (pre ++ (x.1 ++ x.2)).length = (pre ++ (x.1 ++ x.2)).length + 0 from rfl, get_pre, ec]
      exact hc
    | more a b hw2 =>
      rw [el, lineAt_term hl3 yf yt (by omega)] at hw2
      have h := white_lines rest lts y (pre ++ (x.1 ++ x.2)) _ _ q hl2 rfl rfl (fun z hz => hy z (List.mem_cons_of_mem _ hz)) (by omega) (by rw [← ef]; exact hb) hw2
      rw [h, ef]
      congr 2
      simp [rawOf]
      omega
theorem rowsOf_raw {l : List UInt8} : ∀ (lts : List LT) (x : LT) (pre : List UInt8) (acc rs : List (List UInt8)), l = pre ++ rawOf (x :: lts) → (∀ y ∈ x :: lts, Flat y.1 ∧ Term y.2) → RowsOf l (pre.length : Int) acc rs → rs = acc ++ (x :: lts).map Prod.fst
  | [], x, pre, acc, rs, hl, hy, h => by
    have hl2 : l = pre ++ (x.1 ++ []) := by rw [hl]; simp [rawOf]
    have e := lineAt_end (hi := l.length) hl2 (hy x List.mem_cons_self).1 (by rw [hl2]; simp)
    cases h with
    | last a =>
      rw [e]
      have e2 : l.length = pre.length + x.1.length := by rw [hl2]; simp
      rw [e2, cutL_nat hl2]
      rfl
    | more a _ => rw [e] at a; exact absurd rfl a
  | y :: lts, x, pre, acc, rs, hl, hy, h => by
    obtain ⟨xf, xt⟩ := hy x List.mem_cons_self
    have hl2 : l = pre ++ (x.1 ++ (x.2 ++ rawOf (y :: lts))) := by rw [hl]; simp [rawOf]
    have hlen : l.length = pre.length + (x.1.length + (x.2.length + (rawOf (y :: lts)).length)) := by rw [hl2]; simp
    have tp := term_pos xt
    have e := lineAt_term (hi := l.length) hl2 xf xt (by omega)
    cases h with
    | last a => rw [e] at a; dsimp only at a; omega
    | more a b =>
      rw [e] at b
      dsimp only at b
      rw [cutL_nat hl2] at b
      have ep : pre.length + x.1.length + x.2.length = (pre ++ (x.1 ++ x.2)).length := by simp; omega
      rw [ep] at b
      have h := rowsOf_raw lts y (pre ++ (x.1 ++ x.2)) _ _ (by rw [hl2]; simp) (fun z hz => hy z (List.mem_cons_of_mem _ hz)) b
      rw [h]
      simp
theorem colonIn_at {l pre nm rest : List UInt8} {hi : Nat} (hl : l = pre ++ (nm ++ 58 :: rest)) (h58 : (58 : UInt8) ∉ nm) (hn : isName nm = true) (hh : pre.length + nm.length < hi) : colonIn l (pre.length : Int) (hi : Int) = ((pre.length + nm.length : Nat) : Int) := by
  unfold colonIn
  rw [fnd_split hl h58 hh, cutL_nat hl, if_pos ⟨by omega, hn⟩]
theorem colonIn_no {l pre mid rest : List UInt8} {hi : Nat} (hl : l = pre ++ (mid ++ rest)) (h58 : (58 : UInt8) ∉ mid) (hh : hi = pre.length + mid.length) : colonIn l (pre.length : Int) (hi : Int) = -1 := by
  unfold colonIn
  rw [fnd_none hl h58 hh, if_neg (fun h => absurd h.1 (by decide))]
theorem colonIn_nil {l pre rest : List UInt8} {hi : Nat} (hl : l = pre ++ (58 :: rest)) (hh : pre.length < hi) : colonIn l (pre.length : Int) (hi : Int) = -1 := by
  unfold colonIn
  have hl2 : l = pre ++ ([] ++ 58 :: rest) := hl
  rw [fnd_split hl2 (by simp) (by simpa using hh), cutL_nat hl2, if_neg (fun h => absurd h.2 (by decide))]
/-- a row that read_spans takes -/
structure RTOk (x : RT) : Prop where
  nm : isName x.1 = true
  lns : ∃ y lts, x.2 = y :: lts ∧ Flat y.1 ∧ Term y.2 ∧ ∀ z ∈ lts, Flat z.1 ∧ Cont z.1 ∧ Term z.2
theorem good_of {c : UInt8} (h : goodOct c = true) : 33 ≤ c.toNat ∧ c.toNat ≤ 126 ∧ c.toNat ≠ 58 := by
  unfold goodOct at h
  simp at h
  omega
theorem name_facts {nm : List UInt8} (h : isName nm = true) : (∀ c ∈ nm, goodOct c = true) ∧ Flat nm ∧ (58 : UInt8) ∉ nm ∧ ∃ c r, nm = c :: r ∧ ¬ isWhite c := by
  unfold isName at h
  rw [Bool.and_eq_true, List.all_eq_true, decide_eq_true_iff] at h
  refine ⟨h.1, ⟨fun e => ?_, fun e => ?_⟩, fun e => ?_, ?_⟩
  · exact absurd (h.1 _ e) (by decide)
  · exact absurd (h.1 _ e) (by decide)
  · exact absurd (h.1 _ e) (by decide)
  · cases nm with
    | nil => exact absurd h.2 (by simp)
    | cons c r =>
      refine ⟨c, r, rfl, fun hw => ?_⟩
      have hg := good_of (h.1 c List.mem_cons_self)
      unfold isWhite at hw
      omega
def rowD (n : Nat) (x : RT) : RowD := ⟨x.1, rawOf x.2, (n : Int), ((n + (rowTxt x).length : Nat) : Int)⟩
theorem reads_row {l pre rest : List UInt8} {x : RT} {hi : Nat} {acc : List RowD} {res : List RowD × Int} (hl : l = pre ++ (rowTxt x ++ rest)) (ok : RTOk x) (hh : pre.length + (rowTxt x).length ≤ hi)
    (hb : ¬ (pre.length + (rowTxt x).length < hi ∧ isWhite (l.getD (pre.length + (rowTxt x).length) 0))) (h : Reads l (hi : Int) (pre.length : Int) acc res) :
    Reads l (hi : Int) ((pre.length + (rowTxt x).length : Nat) : Int) (acc ++ [rowD pre.length x]) res := by
  obtain ⟨hn, y, lts, ex, yf, yt, hz⟩ := ok
  obtain ⟨_, nf, n58, _⟩ := name_facts hn
  obtain ⟨nm, lns⟩ := x
  dsimp only at ex hn nf n58
  subst ex
  have tp := term_pos yt
  have hlr : (rowTxt (nm, y :: lts)).length = nm.length + 1 + (full (y :: lts)).length := by simp [rowTxt]; omega
  have hlf : (full (y :: lts)).length = y.1.length + y.2.length + (full lts).length := by rw [full_cons, List.length_append, List.length_append]
  have hl1 : l = pre ++ ((nm ++ 58 :: y.1) ++ (y.2 ++ (full lts ++ rest))) := by rw [hl]; simp [rowTxt, full_cons]
  have hl2 : l = pre ++ (nm ++ 58 :: (full (y :: lts) ++ rest)) := by rw [hl]; simp [rowTxt]
  have hl3 : l = (pre ++ (nm ++ [58])) ++ (full (y :: lts) ++ rest) := by rw [hl]; simp [rowTxt]
  have hl4 : l = (pre ++ (nm ++ [58])) ++ (rawOf (y :: lts) ++ (lastT (y :: lts) ++ rest)) := by rw [hl3, full_raw]; simp
  have hlen1 : (nm ++ 58 :: y.1).length = nm.length + 1 + y.1.length := by simp; omega
  have hlen3 : (pre ++ (nm ++ [58])).length = pre.length + nm.length + 1 := by simp; omega
  have hend : (pre ++ (nm ++ [58])).length + (full (y :: lts)).length = pre.length + (rowTxt (nm, y :: lts)).length := by omega
  have hline : Flat (nm ++ 58 :: y.1) := by
    refine ⟨fun e => ?_, fun e => ?_⟩
    · rcases List.mem_append.mp e with e | e
      · exact nf.1 e
      · rcases List.mem_cons.mp e with e | e
        · exact absurd e (by decide)
        · exact yf.1 e
    · rcases List.mem_append.mp e with e | e
      · exact nf.2 e
      · rcases List.mem_cons.mp e with e | e
        · exact absurd e (by decide)
        · exact yf.2 e
  have e := lineAt_term (hi := hi) hl1 hline yt (by omega)
  have ec := colonIn_at (hi := pre.length + (nm ++ 58 :: y.1).length) hl2 n58 hn (by omega)
  cases h with
  | done a => omega
  | blank a b => rw [e] at b; dsimp only at b; omega
  | nofield a b c => rw [e] at c; dsimp only at c; rw [ec] at c; omega
  | @field _ _ q _ a b c hw hr =>
    rw [e] at hw hr
    dsimp only at hw hr
    rw [ec] at hr
    have hq := white_lines rest lts y (pre ++ (nm ++ [58])) _ _ q hl3 (by rw [hlen3]; omega) (by rw [hlen3]; omega) hz (by omega) (by rw [hend]; exact hb) hw
    rw [hq] at hr
    dsimp only at hr
    have e1 : ((pre.length + nm.length : Nat) : Int) + 1 = ((pre ++ (nm ++ [58])).length : Int) := by rw [hlen3]; omega
    rw [cutL_nat hl2, e1, cutL_nat hl4, hend] at hr
    exact hr
def dOf : Nat → List RT → List RowD
  | _, [] => []
  | n, x :: r => rowD n x :: dOf (n + (rowTxt x).length) r
theorem reads_rows {l post : List UInt8} {hi : Nat} {res : List RowD × Int} : ∀ (xs : List RT) (pre : List UInt8) (acc : List RowD), l = pre ++ (txt xs ++ post) → (∀ x ∈ xs, RTOk x) → pre.length + (txt xs).length ≤ hi →
    ¬ (pre.length + (txt xs).length < hi ∧ isWhite (l.getD (pre.length + (txt xs).length) 0)) → Reads l (hi : Int) (pre.length : Int) acc res →
    Reads l (hi : Int) ((pre.length + (txt xs).length : Nat) : Int) (acc ++ dOf pre.length xs) res
  | [], pre, acc, hl, _, hh, hb, h => by simpa [txt, dOf] using h
  | x :: xs, pre, acc, hl, ok, hh, hb, h => by
    have hl1 : l = pre ++ (rowTxt x ++ (txt xs ++ post)) := by rw [hl, txt_cons]; simp
    have hl2 : l = (pre ++ rowTxt x) ++ (txt xs ++ post) := by rw [hl, txt_cons]; simp
    have hlen : (txt (x :: xs)).length = (rowTxt x).length + (txt xs).length := by rw [txt_cons, List.length_append]
    have hlen2 : (pre ++ rowTxt x).length = pre.length + (rowTxt x).length := List.length_append
    have ha : pre.length + (txt (x :: xs)).length = (pre ++ rowTxt x).length + (txt xs).length := by omega
    have h2 := reads_row hl1 (ok x List.mem_cons_self) (by omega) ?_ h
    · rw [← hlen2] at h2
      have h3 := reads_rows xs (pre ++ rowTxt x) _ hl2 (fun z hz => ok z (List.mem_cons_of_mem _ hz)) (by omega) (by rw [← ha]; exact hb) h2
      rw [ha]
      simpa [dOf, hlen2] using h3
    · cases xs with
      | nil => simpa [txt_cons, txt] using hb
      | cons z zs =>
        rintro ⟨_, hw⟩
        obtain ⟨_, _, _, c, r, ec, hc⟩ := name_facts (ok z (List.mem_cons_of_mem _ List.mem_cons_self)).nm
        rw [← hlen2, List.getD_eq_getElem?_getD, hl2, show (pre ++ rowTxt x).length = (pre ++ rowTxt x).length + 0 from rfl, get_pre, txt_cons] at hw
        unfold rowTxt at hw
        rw [ec] at hw
        exact hc hw
theorem term_flat {e0 : List UInt8} (h : Term e0) : ∃ c r, e0 = c :: r ∧ ¬ isWhite c := by
  rcases h with rfl | rfl
  · exact ⟨13, _, rfl, by unfold isWhite; decide⟩
  · exact ⟨10, _, rfl, by unfold isWhite; decide⟩
theorem behind_edge {l pre around e0 : List UInt8} {d : Nat} (hl : l = pre ++ (behindOf e0 d ++ around)) (he : Term e0) (hd : d < 4) : ¬ (pre.length < pre.length + (behindOf e0 d).length ∧ isWhite (l.getD pre.length 0)) := by
  rintro ⟨h1, h2⟩
  obtain ⟨c, r, ec, hc⟩ := term_flat he
  rw [List.getD_eq_getElem?_getD, hl, show pre.length = pre.length + 0 from rfl, get_pre] at h2
  obtain rfl | rfl | rfl | rfl : d = 0 ∨ d = 1 ∨ d = 2 ∨ d = 3 := by omega
  · simp [behindOf] at h1
  · rw [ec] at h2
    exact hc h2
  · exact absurd (show isWhite 110 from h2) (by unfold isWhite; decide)
  · exact absurd (show isWhite 58 from h2) (by unfold isWhite; decide)
theorem reads_tail {l pre around e0 : List UInt8} {d hi : Nat} {acc : List RowD} {res : List RowD × Int} (hl : l = pre ++ (behindOf e0 d ++ around)) (he : Term e0) (hd : d < 4) (hh : hi = pre.length + (behindOf e0 d).length) (h : Reads l (hi : Int) (pre.length : Int) acc res) :
    res = (acc, (pre.length : Int) + dueOf e0 d) := by
  have tp := term_pos he
  obtain rfl | rfl | rfl | rfl : d = 0 ∨ d = 1 ∨ d = 2 ∨ d = 3 := by omega
  · have e : hi = pre.length := by rw [hh]; simp [behindOf]
    subst e
    cases h with
    | done a => simp [dueOf]
    | blank a _ => omega
    | nofield a _ _ => omega
    | field a _ _ _ _ => omega
  · have hl2 : l = pre ++ ([] ++ (e0 ++ ([122, 58, 32, 121] ++ e0 ++ around))) := by rw [hl]; simp [behindOf]
    have hlen : (behindOf e0 1).length = e0.length + 4 + e0.length := by simp [behindOf]; omega
    have e := lineAt_term (hi := hi) hl2 ⟨by simp, by simp⟩ he (by simp; omega)
    simp only [List.length_nil, Nat.add_zero] at e
    cases h with
    | done a => omega
    | blank a b =>
      rw [e]
      simp [dueOf]
    | nofield a b _ => rw [e] at b; exact absurd rfl b
    | field a b _ _ _ => rw [e] at b; exact absurd rfl b
  · have hl2 : l = pre ++ ([110, 111, 32, 102, 105, 101, 108, 100] ++ (e0 ++ around)) := by rw [hl]; simp [behindOf]
    have hlen : (behindOf e0 2).length = 8 + e0.length := by simp [behindOf]; omega
    have e := lineAt_term (hi := hi) hl2 ⟨by decide, by decide⟩ he (by simp; omega)
    have ec := colonIn_no (hi := pre.length + 8) hl2 (by decide) rfl
    rw [show ([110, 111, 32, 102, 105, 101, 108, 100] : List UInt8).length = 8 from rfl] at e
    cases h with
    | done a => omega
    | blank a b => rw [e] at b; dsimp only at b; omega
    | nofield a b c => simp [dueOf]
    | field a b c _ _ => rw [e] at c; dsimp only at c; rw [ec] at c; exact absurd (by decide) c
  · have hl2 : l = pre ++ ([58, 32, 120] ++ (e0 ++ around)) := by rw [hl]; simp [behindOf]
    have hl3 : l = pre ++ (58 :: ([32, 120] ++ (e0 ++ around))) := by rw [hl]; simp [behindOf]
    have hlen : (behindOf e0 3).length = 3 + e0.length := by simp [behindOf]; omega
    have e := lineAt_term (hi := hi) hl2 ⟨by decide, by decide⟩ he (by simp; omega)
    have ec := colonIn_nil (hi := pre.length + 3) hl3 (by omega)
    rw [show ([58, 32, 120] : List UInt8).length = 3 from rfl] at e
    cases h with
    | done a => omega
    | blank a b => rw [e] at b; dsimp only at b; omega
    | nofield a b c => simp [dueOf]
    | field a b c _ _ => rw [e] at c; dsimp only at c; rw [ec] at c; exact absurd (by decide) c
theorem names_ok : ∀ x ∈ names3, isName x = true ∧ x.length ≤ 3 := by decide
theorem firsts_ok : ∀ x ∈ firsts4, Flat x ∧ x.length ≤ 4 := by unfold Flat; decide
theorem conts_ok : ∀ x ∈ conts4, Flat x ∧ Cont x ∧ x.length ≤ 5 := by
  intro x hx
  simp only [conts4, List.mem_cons, List.not_mem_nil, or_false] at hx
  rcases hx with rfl | rfl | rfl | rfl
  · exact ⟨by unfold Flat; decide, ⟨_, _, rfl, by unfold isWhite; decide⟩, by decide⟩
  · exact ⟨by unfold Flat; decide, ⟨_, _, rfl, by unfold isWhite; decide⟩, by decide⟩
  · exact ⟨by unfold Flat; decide, ⟨_, _, rfl, by unfold isWhite; decide⟩, by decide⟩
  · exact ⟨by unfold Flat; decide, ⟨_, _, rfl, by unfold isWhite; decide⟩, by decide⟩
theorem full_le : ∀ (lts : List LT), (∀ z ∈ lts, z.1.length + z.2.length ≤ 7) → (full lts).length ≤ 7 * lts.length
  | [], _ => by simp [full]
  | x :: r, h => by
    have h1 := full_le r fun z hz => h z (List.mem_cons_of_mem _ hz)
    have h2 := h x List.mem_cons_self
    rw [full_cons, List.length_append, List.length_append, List.length_cons]
    omega
theorem rt_ok {x : RT} (h : RowOk (plainRow x)) (ht : ∀ y ∈ x.2, Term y.2) : RTOk x ∧ (rowTxt x).length ≤ 25 ∧ (rawOf x.2).length ≤ 21 := by
  obtain ⟨nm, lns⟩ := x
  obtain ⟨h1, l, ls, h2, h3, h4, h5⟩ := h
  have h2' : lns.map Prod.fst = l :: ls := h2
  have hn := names_ok nm h1
  cases lns with
  | nil => exact absurd h2' (by simp)
  | cons y lts =>
    rw [List.map_cons] at h2'
    obtain ⟨rfl, rfl⟩ := List.cons.inj h2'
    have hf := firsts_ok _ h3
    rw [List.length_map] at h5
    have hc : ∀ z ∈ lts, Flat z.1 ∧ Cont z.1 ∧ z.1.length ≤ 5 := fun z hz => conts_ok _ (h4 _ (List.mem_map_of_mem hz))
    have hz : ∀ z ∈ y :: lts, z.1.length + z.2.length ≤ 7 := by
      intro z hz
      have t := term_pos (ht z hz)
      rcases List.mem_cons.mp hz with rfl | hz
      · omega
      · have := (hc z hz).2.2
        omega
    have hl := full_le _ hz
    rw [List.length_cons] at hl
    have hr : (full (y :: lts)).length = (rawOf (y :: lts)).length + (lastT (y :: lts)).length := by rw [full_raw, List.length_append]
    refine ⟨⟨hn.1, y, lts, rfl, hf.1, ht y List.mem_cons_self, fun z hz => ⟨(hc z hz).1, (hc z hz).2.1, ht z (List.mem_cons_of_mem _ hz)⟩⟩, ?_, ?_⟩
    · have e : (rowTxt (nm, y :: lts)).length = nm.length + 1 + (full (y :: lts)).length := by simp [rowTxt]; omega
      omega
    · show (rawOf (y :: lts)).length ≤ 21
      omega
theorem txt_le : ∀ (xs : List RT), (∀ x ∈ xs, (rowTxt x).length ≤ 25) → (txt xs).length ≤ 25 * xs.length
  | [], _ => by simp [txt]
  | x :: r, h => by
    have h1 := txt_le r fun z hz => h z (List.mem_cons_of_mem _ hz)
    have h2 := h x List.mem_cons_self
    rw [txt_cons, List.length_append, List.length_cons]
    omega
theorem sum_le : ∀ (ls : List (List UInt8)), (∀ x ∈ ls, x.length ≤ 5) → (ls.map fun l => l.length + 2).sum ≤ 7 * ls.length
  | [], _ => by simp
  | x :: r, h => by
    have h1 := sum_le r fun z hz => h z (List.mem_cons_of_mem _ hz)
    have h2 := h x List.mem_cons_self
    rw [List.map_cons, List.sum_cons, List.length_cons]
    omega
theorem bulk_rows : ∀ (rows : List RowL), (∀ r ∈ rows, RowOk r) → bulk rows ≤ 25 * rows.length
  | [], _ => by simp [bulk]
  | r :: rows, h => by
    have h1 := bulk_rows rows fun z hz => h z (List.mem_cons_of_mem _ hz)
    have h2 : rowBulk r ≤ 25 := by
      obtain ⟨a, l, ls, e, b, c, d⟩ := h r List.mem_cons_self
      have hn := (names_ok _ a).2
      have hs := sum_le r.2 (by
        rw [e]
        intro x hx
        rcases List.mem_cons.mp hx with rfl | hx
        · have := (firsts_ok _ b).2; omega
        · exact (conts_ok _ (c x hx)).2.2)
      have hl : r.2.length ≤ 3 := by rw [e, List.length_cons]; omega
      unfold rowBulk
      omega
    have e : bulk (r :: rows) = rowBulk r + bulk rows := by unfold bulk; rw [List.map_cons, List.sum_cons]
    rw [e, List.length_cons]
    omega
theorem dOf_seen (k : Nat) : ∀ (xs : List RT) (n : Nat), (dOf (k + n) xs).map seenOf = (spansAt n xs).map (shift (k : Int))
  | [], _ => rfl
  | x :: r, n => by
    have h := dOf_seen k r (n + (rowTxt x).length)
    rw [dOf, spansAt, List.map_cons, List.map_cons, Nat.add_assoc k, h]
    congr 1
    unfold seenOf rowD shift
    simp only [Prod.mk.injEq, true_and]
    constructor <;> push_cast <;> omega
theorem dOf_raw : ∀ (xs : List RT) (n : Nat), (dOf n xs).map (·.raw) = xs.map fun x => rawOf x.2
  | [], _ => rfl
  | x :: r, n => by
    rw [dOf, List.map_cons, List.map_cons, dOf_raw r]
    rfl
theorem menu_facts {ends : List (List UInt8)} (h : ends ∈ endsMenu) : ends ≠ [] ∧ (∀ e ∈ ends, Term e) ∧ Term (ends.getD 0 []) ∧ 1 ≤ ends.length ∧ ends.length ≤ 3 ∧ ∀ e ∈ ends, e.length ≤ 2 := by
  simp only [endsMenu, List.mem_cons, List.not_mem_nil, or_false] at h
  rcases h with rfl | rfl | rfl
  all_goals unfold Term; decide
/-- the plain law -/
theorem plain {rows : List RowL} {ends : List (List UInt8)} {e0 : List UInt8} {d : Nat} (hok : ∀ r ∈ rows, RowOk r) (hlen : rows.length ≤ 5) (he : ends ∈ endsMenu) (h0 : ends.getD 0 [] = e0) (hd : d < 4) :
    (laid ends rows).1.length ≤ 1000 ∧ bulk rows ≤ 50000 ∧ 1 ≤ ends.length ∧ ends.length ≤ 3 ∧ (∀ e ∈ ends, e.length ≤ 2) ∧ 1 ≤ e0.length ∧ e0.length ≤ 2 ∧
    ∃ raws : List (List UInt8), raws.length = rows.length ∧ (∀ x ∈ raws, x.length ≤ 1000) ∧ (∀ i (h1 : i < raws.length) (h2 : i < rows.length) rs, RowsOf raws[i] 0 [] rs → stripL [32, 9] rs.flatten = stripL [32, 9] (rows[i]).2.flatten) ∧
      ∀ (ahead around : List UInt8) (res : List RowD × Int), Reads (ahead ++ (laid ends rows).1 ++ behindOf e0 d ++ around) ((ahead.length : Int) + (laid ends rows).1.length + (behindOf e0 d).length) ahead.length [] res →
        res.1.map seenOf = (laid ends rows).2.map (shift ahead.length) ∧ res.2 = (laid ends rows).1.length + dueOf e0 d + ahead.length ∧ res.1.map (·.raw) = raws := by
  obtain ⟨m1, m2, m3, m4, m5, m6⟩ := menu_facts he
  rw [h0] at m3
  have tp := term_pos m3
  obtain ⟨xs, hx, hxt, hlaid⟩ := laid_txt m1 m2 rows
  subst hx
  rw [List.length_map] at hlen
  have hrt : ∀ x ∈ xs, RTOk x ∧ (rowTxt x).length ≤ 25 ∧ (rawOf x.2).length ≤ 21 := fun x hx => rt_ok (hok _ (List.mem_map_of_mem hx)) (hxt x hx)
  have hb := bulk_rows _ hok
  rw [List.length_map] at hb
  have ht := txt_le xs fun x hx => (hrt x hx).2.1
  rw [hlaid]
  dsimp only
  refine ⟨by omega, by omega, m4, m5, m6, tp.1, tp.2, xs.map (fun x => rawOf x.2), by simp, ?_, ?_, ?_⟩
  · intro x hx
    obtain ⟨y, hy, rfl⟩ := List.mem_map.mp hx
    have := (hrt y hy).2.2
    omega
  · intro i h1 h2 rs hR
    rw [List.length_map] at h1
    have hm := List.getElem_mem h1
    obtain ⟨y, lts, e, a, b, c⟩ := (hrt _ hm).1.lns
    rw [List.getElem_map, e] at hR
    have h := rowsOf_raw lts y [] [] rs rfl (fun z hz => by
      rcases List.mem_cons.mp hz with rfl | hz
      · exact ⟨a, b⟩
      · exact ⟨(c z hz).1, (c z hz).2.2⟩) hR
    rw [h, List.getElem_map, List.nil_append]
    unfold plainRow
    rw [e]
  · intro ahead around res hR
    have e1 : (ahead.length : Int) + (txt xs).length + (behindOf e0 d).length = (((ahead ++ txt xs).length + (behindOf e0 d).length : Nat) : Int) := by rw [List.length_append]; push_cast; rfl
    rw [e1] at hR
    have hl1 : ahead ++ txt xs ++ behindOf e0 d ++ around = ahead ++ (txt xs ++ (behindOf e0 d ++ around)) := by simp
    have hl2 : ahead ++ txt xs ++ behindOf e0 d ++ around = (ahead ++ txt xs) ++ (behindOf e0 d ++ around) := by simp
    have e2 : (ahead ++ txt xs).length = ahead.length + (txt xs).length := List.length_append
    have hR2 := reads_rows xs ahead [] hl1 (fun x hx => (hrt x hx).1) (by omega) (by rw [← e2]; exact behind_edge hl2 m3 hd) hR
    rw [← e2] at hR2
    have h := reads_tail hl2 m3 hd rfl hR2
    subst h
    dsimp only
    rw [List.nil_append]
    refine ⟨dOf_seen ahead.length xs 0, ?_, dOf_raw xs _⟩
    rw [e2]
    push_cast
    omega
theorem off_19 : True := by
  w_top off
  trivial
theorem nat_ints {vs : List Value} {ns : List Int} (h : IntsAre vs ns) (hp : ∀ n ∈ ns, 0 ≤ n) : ∀ v ∈ vs, NatIs v := by
  induction h with
  | nil => intro v hv; cases hv
  | @cons n t vs ns _ ih =>
    intro v hv
    rcases List.mem_cons.mp hv with rfl | hv
    · exact ⟨n.toNat, _, by rw [Int.toNat_of_nonneg (hp n List.mem_cons_self)]⟩
    · exact ih (fun n hn => hp n (List.mem_cons_of_mem _ hn)) v hv
theorem nats_of {ns : List Int} : ∀ n ∈ ns.map (fun k' => Int.fmod (if k' < 0 then -k' else k') (10 ^ Int.toNat 80)), 0 ≤ n := by
  intro n hn
  obtain ⟨k, _, rfl⟩ := List.mem_map.mp hn
  exact Int.fmod_nonneg_of_pos _ (Int.pow_pos (by decide))
theorem pool24 {vs : List Value} {ns : List Int} {f : Int → Int} (h : IntsAre vs ((ns.take 24).map f)) : vs.length ≤ 24 := by
  refine Nat.le_trans (Nat.le_of_eq h.length) ?_
  rw [List.length_map, List.length_take]
  omega
theorem behind_len {e0 : List UInt8} {d : Nat} (hd : d < 4) (he : e0.length ≤ 2) : (behindOf e0 d).length ≤ 20 := by
  unfold behindOf
  obtain rfl | rfl | rfl | rfl : d = 0 ∨ d = 1 ∨ d = 2 ∨ d = 3 := by omega
  all_goals simp
  all_goals omega
theorem menu_len6 {l : List UInt8} (h : l ∈ [[], [81, 58, 32, 114, 13, 10], [10]]) : l.length ≤ 6 := by
  simp only [List.mem_cons, List.not_mem_nil, or_false] at h
  rcases h with rfl | rfl | rfl <;> simp
theorem menu_len5 {l : List UInt8} (h : l ∈ [[], [32, 115], [84, 58, 32, 117, 10]]) : l.length ≤ 5 := by
  simp only [List.mem_cons, List.not_mem_nil, or_false] at h
  rcases h with rfl | rfl | rfl <;> simp
theorem read_okI1 {w : World} {l : List UInt8} (h : l.length ≤ 100000) : (readT w).Ok ⟨l, 0, l.length⟩ := ⟨Int.le_refl _, Int.natCast_nonneg _, Int.le_refl _, h⟩
theorem read_okI3 {w : World} {l : List UInt8} {lo hi : Int} (h0 : 0 ≤ lo) (h1 : lo ≤ hi) (h2 : hi ≤ l.length) (h : l.length ≤ 100000) : (readT w).Ok ⟨l, lo, hi⟩ := ⟨h0, h1, h2, h⟩
theorem shift0 (l : List SpanD) : l.map (shift ((([] : List UInt8).length : Nat) : Int)) = l := by
  induction l with
  | nil => rfl
  | cons x r ih =>
    rw [List.map_cons, ih]
    obtain ⟨a, b, c⟩ := x
    simp [shift]
theorem plain_own {hd bh : List UInt8} {due : Int} {spans : List SpanD} {raws : List (List UInt8)}
    (hP : ∀ (ahead around : List UInt8) (res : List RowD × Int), Reads (ahead ++ hd ++ bh ++ around) ((ahead.length : Int) + hd.length + bh.length) ahead.length [] res →
        res.1.map seenOf = spans.map (shift ahead.length) ∧ res.2 = hd.length + due + ahead.length ∧ res.1.map (·.raw) = raws) (res : List RowD × Int) (h : Reads (hd ++ bh) ((hd ++ bh).length : Nat) 0 [] res) :
    res.1.map seenOf = spans ∧ res.2 = hd.length + due ∧ res.1.map (·.raw) = raws := by
  have h1 := hP [] [] res (by simpa using h)
  rw [shift0] at h1
  refine ⟨h1.1, ?_, h1.2.2⟩
  rw [h1.2.1]
  simp
/-- a mark: the walk is past the rows -/
def Mark : Prop := True
theorem size2 {bv : List Value} (h : bv.length ≤ 2) : bv.toArray.size ≤ sizeLine := by rw [List.size_toArray, sizeLine_eq]; omega
theorem body_conv {fr : List RowD} {raws : List (List UInt8)} {rows : List RowL} {ys : List Value} (hys : All2 (fun y (d : RowD) => ∃ rs, RowsOf d.raw 0 [] rs ∧ BytesIs y (stripL [32, 9] rs.flatten)) ys fr) (hraw : fr.map (·.raw) = raws) (hl : raws.length = rows.length)
    (hrwb : ∀ i (h1 : i < raws.length) (h2 : i < rows.length) rs, RowsOf raws[i] 0 [] rs → stripL [32, 9] rs.flatten = stripL [32, 9] (rows[i]).2.flatten) : All2 BytesIs ys (rows.map fun r => stripL [32, 9] r.2.flatten) := by
  subst hraw
  rw [List.length_map] at hl
  refine All2.conv hys (by rw [hl, List.length_map]) fun i h1 h2 y h => ?_
  obtain ⟨rs, hR, hb⟩ := h
  have h3 : i < rows.length := by omega
  rw [List.getElem_map, ← hrwb i (by rw [List.length_map]; exact h1) h3 rs (by rw [List.getElem_map]; exact hR)]
  exact hb
theorem sub_cons {α : Type} {p a : α} {r r' : List α} (h : p ∈ r → p ∈ r') : p ∈ a :: r → p ∈ a :: r' := fun hp => by
  rcases List.mem_cons.mp hp with rfl | hp
  · exact .head _
  · exact .tail _ (h hp)
theorem sub_app {α : Type} {p : α} {a r r' : List α} (h : p ∈ r → p ∈ r') : p ∈ a ++ r → p ∈ a ++ r' := fun hp => by
  rcases List.mem_append.mp hp with hp | hp
  · exact List.mem_append_left _ hp
  · exact List.mem_append_right _ (h hp)
theorem squeeze {P : Prop} {h₀ h : Heap} {L D1 D' I bd T : Addr} {o1 oD oI ob oT : Obj} {X t1 t2 t3 t4 r1 r2 r3 r4 u : List (Addr × Obj)} {q1 q2 q3 : Addr × Obj}
    (N : News h₀ L h ((D1, o1) :: (D', oD) :: (I, oI) :: (bd, ob) :: (T, oT) :: (X ++ (t1 ++ (t2 ++ (t3 ++ t4)))))) (hD : I < D' ∧ bd < D' ∧ T < D' ∧ AllLt D' u) (hX : OwnOff X [bd, I])
    (h1 : Apart ((I, oI) :: (bd, ob) :: r1) t1) (h2 : Apart (q1 :: (I, oI) :: (bd, ob) :: r2) t2) (h3 : Apart (q2 :: (I, oI) :: (bd, ob) :: r3) t3) (h4 : Apart (q3 :: (I, oI) :: (bd, ob) :: r4) t4)
    (k : ∀ Y, News h₀ L h ((D1, o1) :: (I, oI) :: (bd, ob) :: (T, oT) :: Y) → OwnOff Y [bd, I] → (∀ p ∈ X, p ∈ Y) → (∀ p ∈ t1, p ∈ Y) → (∀ p ∈ t2, p ∈ Y) → P) : P := by
  refine k ((D', oD) :: (X ++ (t1 ++ (t2 ++ (t3 ++ t4))))) (fun p hp => N p ?_) (fun p hp b hb => ?_) ?_ ?_ ?_
  · simp only [List.mem_cons, List.mem_append] at hp ⊢
    grind
  · have two : ∀ {q : Addr × Obj} {r t : List (Addr × Obj)}, Apart (q :: (I, oI) :: (bd, ob) :: r) t → p ∈ t → p.1 ≠ b := fun h hp => by
      rcases List.mem_cons.mp hb with rfl | hb
      · exact Apart.ne (o := ob) h (.tail _ (.tail _ (.head _))) p hp
      · rw [List.mem_singleton.mp hb]; exact Apart.ne (o := oI) h (.tail _ (.head _)) p hp
    rcases List.mem_cons.mp hp with rfl | hp
    · rcases List.mem_cons.mp hb with rfl | hb
      · exact Nat.ne_of_gt hD.2.1
      · rw [List.mem_singleton.mp hb]; exact Nat.ne_of_gt hD.1
    rcases List.mem_append.mp hp with hp | hp
    · exact hX p hp b hb
    rcases List.mem_append.mp hp with hp | hp
    · rcases List.mem_cons.mp hb with rfl | hb
      · exact Apart.ne (o := ob) h1 (.tail _ (.head _)) p hp
      · rw [List.mem_singleton.mp hb]; exact Apart.ne (o := oI) h1 (.head _) p hp
    rcases List.mem_append.mp hp with hp | hp
    · exact two h2 hp
    rcases List.mem_append.mp hp with hp | hp
    · exact two h3 hp
    · exact two h4 hp
  all_goals
    intro p hp
    simp only [List.mem_cons, List.mem_append]
    simp [hp]
theorem squeeze2 {P : Prop} {h₀ h : Heap} {L D1 I bd T : Addr} {o1 oI ob oT : Obj} {Y t : List (Addr × Obj)} (N : News h₀ L h ((D1, o1) :: (I, oI) :: (bd, ob) :: (T, oT) :: Y ++ t))
    (k : ∀ Z, News h₀ L h Z → (D1, o1) ∈ Z → (I, oI) ∈ Z → (bd, ob) ∈ Z → (T, oT) ∈ Z → (∀ p ∈ Y, p ∈ Z) → (∀ p ∈ t, p ∈ Z) → P) : P :=
  k _ N (.head _) (.tail _ (.head _)) (.tail _ (.tail _ (.head _))) (.tail _ (.tail _ (.tail _ (.head _)))) (fun p hp => .tail _ (.tail _ (.tail _ (.tail _ (List.mem_append_left _ hp))))) (fun p hp => List.mem_append_right _ hp)
theorem name_mem {α : Type} {P : Prop} {x : α} {l : List α} (h : x ∈ l) (k : ∀ y, y = x → P) : P := k x rfl
theorem ends_end {h₀ h' : Heap} {L I bd T : Addr} {s : Shared} {o oT : Obj} {bv : List Value} {X all' : List (Addr × Obj)} {ps : List (List UInt8)} {stored : List Str} {m₀ m' : Str → Option Value} {tk' : Nat} {nb : Addr} {ys : List Value} {k k' : Nat}
    (F : Fr h₀ L h' m') (N : News h₀ L h' all') (hI : (I, o) ∈ all') (hb : (bd, W.listOf (bv.toArray.push (.ref nb)) k') ∈ all') (hT : (T, oT) ∈ all') (hn : (nb, W.listOf ys.toArray k) ∈ all') (hX : ∀ p ∈ X, p ∈ all') (hys : All2 BytesIs ys ps) (h1 : @Ne Nat nb I) (h2 : @Ne Nat nb bd) (hs : Same stored m₀ m') :
    EndsEnd h₀ L s I bd T o oT bv X ps stored m₀ { s with heap := h', toks := tk' } := by
  rw [push_list] at hb
  exact ⟨h', tk', m', all', nb, ys, k, k', rfl, F, N, hI, hb, hT, hn, hX, hys, h1, h2, hs⟩
def litX : List RT := [([65], [([32, 98], [13, 10]), ([32, 9], [13, 10])]), ([67], [([], [10])])]
theorem lit_ok : ∀ x ∈ litX, RTOk x := by
  intro x hx
  simp only [litX, List.mem_cons, List.not_mem_nil, or_false] at hx
  rcases hx with rfl | rfl
  · refine ⟨by decide, _, _, rfl, by unfold Flat; decide, .inl rfl, fun z hz => ?_⟩
    rw [List.mem_singleton.mp hz]
    exact ⟨by unfold Flat; decide, ⟨_, _, rfl, by unfold isWhite; decide⟩, .inl rfl⟩
  · exact ⟨by decide, _, _, rfl, by unfold Flat; decide, .inr rfl, List.forall_mem_nil _⟩
theorem lit_reads {res : List RowD × Int} (h : Reads [65, 58, 32, 98, 13, 10, 32, 9, 13, 10, 67, 58, 10, 100] (([65, 58, 32, 98, 13, 10, 32, 9, 13, 10, 67, 58, 10, 100] : List UInt8).length : Nat) 0 [] res) :
    res.1.map seenOf = [([65], 0, 10), ([67], 10, 13)] ∧ res.2 = 13 ∧ res.1.length ≤ 5 := by
  have hl : ([65, 58, 32, 98, 13, 10, 32, 9, 13, 10, 67, 58, 10, 100] : List UInt8) = [] ++ (txt litX ++ [100]) := by decide
  have ht : (txt litX).length = 13 := by decide
  have h2 := reads_rows (hi := 14) litX [] [] hl lit_ok (by rw [ht]; decide) (by rw [ht]; unfold isWhite; decide) h
  rw [ht] at h2
  have hl3 : ([65, 58, 32, 98, 13, 10, 32, 9, 13, 10, 67, 58, 10, 100] : List UInt8) = txt litX ++ ([100] ++ []) := by decide
  have e := lineAt_end (hi := 14) hl3 (by unfold Flat; decide) (by rw [ht]; rfl)
  have ec := colonIn_no (hi := 14) hl3 (by decide) (by rw [ht]; rfl)
  rw [ht] at e ec
  generalize ([65, 58, 32, 98, 13, 10, 32, 9, 13, 10, 67, 58, 10, 100] : List UInt8) = l at h2 e ec
  have h3 : Reads l ((14 : Nat) : Int) ((13 : Nat) : Int) (dOf 0 litX) res := h2
  cases h3 with
  | done a => exact absurd (by decide) a
  | blank a b => rw [e] at b; exact absurd b (by decide)
  | nofield a b c => exact ⟨by decide, rfl, by decide⟩
  | field a b c _ _ => rw [e] at c; dsimp only at c; rw [ec] at c; exact absurd (by decide) c
theorem name_ends {P : Prop} {a T I : Addr} (h : @Ne Nat a I ∧ @Ne Nat T I ∧ @Ne Nat T a) (k : ∀ a' T', a' = a → T' = T → P) : P := k a T rfl rfl
/-- a mark: walk on -/
def Go : Prop := True
theorem name_nat {P : Prop} {d : Nat} (h : d < 4) (k : ∀ d', d' = d → P) : P := k d rfl
theorem rng6 {d : Nat} (h : (d : Int) < 6) : Builtin.Range.small 0 (d : Int) 1 = true ∧ Builtin.Range.rangeSize 0 (d : Int) 1 = (d : Int) := by
  obtain rfl | rfl | rfl | rfl | rfl | rfl : d = 0 ∨ d = 1 ∨ d = 2 ∨ d = 3 ∨ d = 4 ∨ d = 5 := by omega
  all_goals exact ⟨by decide, by decide⟩
structure RwS where
  pv : List Value
  pk : Nat
  rv : List Value
  rk : Nat
  tl : List (Addr × Obj)
  rows : List RowL
def RwInv (adr : List Addr) (i : Nat) (c : RwS) : Prop := All2 (RowLIn c.tl) c.rv c.rows ∧ (∀ r ∈ c.rows, RowOk r) ∧ c.rows.length = i ∧ (∀ v ∈ c.pv, NatIs v) ∧ c.pv.length ≤ 24 ∧ OwnOff c.tl adr
section
variable {prog : Program} {w : World} {A : Around} {E : Value → Shared → Prop} {Q : Flow → Shared → Prop} {s : Shared} {env : Env} {h₀ : Heap}
theorem law_rows {x : Str} {px : Pos} {body : List Stmt} {r rw pa sc cell : Addr} {osc oc : Obj} {pv : List Value} {pk : Nat} {t₀ u₀ v₀ : Tok} {d : Nat} {m₀ : Str → Option Value}
    (stored : List Str) (hh : A.handled = none) (hr : IsRange s.heap r 0 (d : Int) 1 t₀ u₀ v₀) (hd : (d : Int) < 6) (F : Fr h₀ env.locals s.heap m₀) (N : News h₀ env.locals s.heap [(rw, W.listOf #[] 0), (pa, W.listOf pv.toArray pk), (sc, osc), (cell, oc)])
    (hv : ∀ v ∈ pv, NatIs v) (hl : pv.length ≤ 24)
    (turn : ∀ i v (c : RwS) (u : Str → Option Value) h tk I o, i < 5 → RwInv [rw, pa, cell] i c → (@Ne Nat rw I ∧ @Ne Nat pa I ∧ @Ne Nat cell I) → OwnOff c.tl [I, rw, pa, cell] → Fr h₀ env.locals h (fun z => if stored.contains z then u z else m₀ z) → News h₀ env.locals h ((I, o) :: (rw, W.listOf c.rv.toArray c.rk) :: (pa, W.listOf c.pv.toArray c.pk) :: (cell, oc) :: c.tl) →
      wpAny (model prog w) A (assign (.Name x px) env v) (fun _ s₂ => wpAny (model prog w) A (execs body env) (FwPost h₀ env.locals { s with heap := h, toks := tk } I o (fun c : RwS => (rw, W.listOf c.rv.toArray c.rk) :: (pa, W.listOf c.pv.toArray c.pk) :: (cell, oc) :: c.tl) (fun _ => []) stored m₀ (RwInv [rw, pa, cell] (i + 1)) Q) E s₂) E { s with heap := h, toks := tk })
    (done : ∀ (c : RwS) (u : Str → Option Value) h tk, c.rows.length ≤ 5 → RwInv [rw, pa, cell] d c → Fr h₀ env.locals h (fun z => if stored.contains z then u z else m₀ z) → News h₀ env.locals h ((rw, W.listOf c.rv.toArray c.rk) :: (pa, W.listOf c.pv.toArray c.pk) :: (cell, oc) :: c.tl) → Q .next { s with heap := h, toks := tk })
    (hE : PassesOwn (model prog w) A env E := by passes_own) : wpAny (model prog w) A (pyIter (.ref r)) (fun it s₂ => ForAt prog w A env (.Name x px) body Q E it s₂) E s := by
  refine iter_rng (σ := RwS) (news := []) (n := d) (fun c => (rw, W.listOf c.rv.toArray c.rk) :: (pa, W.listOf c.pv.toArray c.pk) :: (cell, oc) :: c.tl) (fun _ => []) stored (RwInv [rw, pa, cell]) ⟨pv, pk, [], 0, [], []⟩ hh hr ?_ ?_ F (fun p hp => N p ?_) (List.forall_mem_nil _) ⟨.nil, List.forall_mem_nil _, rfl, hv, hl, fun _ h => nomatch h⟩ ?_ ?_ hE
  · exact (rng6 hd).1
  · exact (rng6 hd).2
  · simp only [List.mem_cons] at hp ⊢
    grind
  · intro i v c u h tk I o hi hJ hne F' N'
    refine turn i v c u h tk I o (by omega) hJ ⟨hne _ (.head _), hne _ (.tail _ (.head _)), hne _ (.tail _ (.tail _ (.head _)))⟩ (fun p hp b hb => ?_) F' N'
    rcases List.mem_cons.mp hb with rfl | hb
    · exact hne _ (.tail _ (.tail _ (.tail _ hp)))
    · exact hJ.2.2.2.2.2 p hp b hb
  · intro c u h tk hJ F' N'
    exact done c u h tk (by rw [hJ.2.2.1]; omega) hJ F' N'
end
theorem row_end {h₀ h' : Heap} {L I rw pa cell D ln : Addr} {s : Shared} {oI oc : Obj} {m₀ m' : Str → Option Value} {all tl : List (Addr × Obj)} {tk i : Nat} {rv pv : List Value} {rk pk n lk : Nat} {rows : List RowL} {nm : List UInt8} {t : Tok} {la : Array Value} {lines : List (List UInt8)} {stored : List Str}
    (F : Fr h₀ L h' m') (N : News h₀ L h' all) (hI : (I, oI) ∈ all) (hrw : (rw, W.listOf (rv.toArray.push (.ref D)) rk) ∈ all) (hpa : (pa, W.listOf pv.toArray pk) ∈ all) (hcell : (cell, oc) ∈ all) (htl : ∀ p ∈ tl, p ∈ all)
    (hD : (D, tupOf [.bytes nm.toArray t, .ref ln] n) ∈ all) (hln : (ln, W.listOf la lk) ∈ all) (hne : @Ne Nat rw I ∧ @Ne Nat pa I ∧ @Ne Nat cell I) (hDne : @Ne Nat D I ∧ @Ne Nat D rw ∧ @Ne Nat D pa ∧ @Ne Nat D cell)
    (hlne : @Ne Nat ln I ∧ @Ne Nat ln rw ∧ @Ne Nat ln pa ∧ @Ne Nat ln cell) (hoff : OwnOff tl [I, rw, pa, cell]) (hrv : All2 (RowLIn tl) rv rows) (hrok : ∀ r ∈ rows, RowOk r) (hrl : rows.length = i) (hv : ∀ v ∈ pv, NatIs v) (hl : pv.length ≤ 24)
    (hA : All2 BytesIs la.toList lines) (hok : RowOk (nm, lines)) (hr : ∀ z, (∀ p ∈ ([] : List (Str × Value)), z ≠ p.1) → stored.contains z = false → m' z = m₀ z) :
    FwEnd h₀ L s I oI (fun c : RwS => (rw, W.listOf c.rv.toArray c.rk) :: (pa, W.listOf c.pv.toArray c.pk) :: (cell, oc) :: c.tl) (fun _ => []) stored m₀ (RwInv [rw, pa, cell] (i + 1)) { s with heap := h', toks := tk } := by
  rw [push_list] at hrw
  refine fw_end (⟨pv, pk, rv ++ [.ref D], rk, (D, tupOf [.bytes nm.toArray t, .ref ln] n) :: (ln, W.listOf la lk) :: tl, rows ++ [(nm, lines)]⟩ : RwS) F N hI ?_ ?_ (List.forall_mem_nil _) hr ⟨?_, ?_, ?_, hv, hl, ?_⟩
  · dsimp only
    intro p hp
    simp only [List.mem_cons] at hp
    rcases hp with rfl | rfl | rfl | rfl | rfl | hp
    · exact hrw
    · exact hpa
    · exact hcell
    · exact hD
    · exact hln
    · exact htl _ hp
  · dsimp only
    intro p hp
    simp only [List.mem_cons] at hp
    rcases hp with rfl | rfl | rfl | rfl | rfl | hp
    · exact hne.1
    · exact hne.2.1
    · exact hne.2.2
    · exact hDne.1
    · exact hlne.1
    · exact hoff _ hp _ (.head _)
  · dsimp only
    refine All2.snoc ⟨D, t, n, ln, la.toList, lk, rfl, .head _, by rw [Array.toArray_toList]; exact .tail _ (.head _), hA⟩ (hrv.mono fun v d h => h.mono fun p hp => .tail _ (.tail _ hp))
  · dsimp only
    intro r hr
    rcases List.mem_append.mp hr with hr | hr
    · exact hrok r hr
    · rw [List.mem_singleton.mp hr]; exact hok
  · dsimp only
    rw [List.length_append, hrl]; rfl
  · dsimp only
    intro p hp b hb
    simp only [List.mem_cons, List.not_mem_nil, or_false] at hp hb
    rcases hp with rfl | rfl | hp
    · rcases hb with rfl | rfl | rfl
      · exact hDne.2.1
      · exact hDne.2.2.1
      · exact hDne.2.2.2
    · rcases hb with rfl | rfl | rfl
      · exact hlne.2.1
      · exact hlne.2.2.1
      · exact hlne.2.2.2
    · rcases hb with rfl | rfl | rfl
      · exact hoff _ hp _ (.tail _ (.head _))
      · exact hoff _ hp _ (.tail _ (.tail _ (.head _)))
      · exact hoff _ hp _ (.tail _ (.tail _ (.tail _ (.head _))))
section
variable {prog : Program} {w : World} {A : Around} {E Q : Value → Shared → Prop} {s : Shared} {h₀ : Heap} {L a : Addr} {news : List (Addr × Obj)} {n d : Nat} {u : Tok} {value slice : PySem.Expr} {t1 t2 t3 t4 : Tok} {a1 a2 a3 a4 : List UInt8}
theorem menu4 (N : News h₀ L s.heap news) (hm : (a, tupOf [.bytes a1.toArray t1, .bytes a2.toArray t2, .bytes a3.toArray t3, .bytes a4.toArray t4] n) ∈ news) (hd : (d : Int) < 4) (h : ∀ l t, l = [a1, a2, a3, a4].getD d [] → l ∈ [a1, a2, a3, a4] → Q (.bytes l.toArray t) s)
    (hs : subscripted slice false (.ref a) (.int (d : Int) u) = operate [.ref a, .int (d : Int) u] (getItem (.ref a) (.int (d : Int) u)) := by with_unfolding_all rfl) :
    wpAny (model prog w) A (subscriptTail value slice (.ref a) (.int (d : Int) u)) Q E s := by
  refine itemTup_L (ends := [a1, a2, a3, a4]) N hm (.cons ⟨_, rfl⟩ (.cons ⟨_, rfl⟩ (.cons ⟨_, rfl⟩ (.cons ⟨_, rfl⟩ .nil)))) (by simp) (by omega) (by simpa using hd) (fun t => h _ t rfl ?_) hs
  obtain rfl | rfl | rfl | rfl : d = 0 ∨ d = 1 ∨ d = 2 ∨ d = 3 := by omega
  all_goals simp
theorem menu3 (N : News h₀ L s.heap news) (hm : (a, tupOf [.bytes a1.toArray t1, .bytes a2.toArray t2, .bytes a3.toArray t3] n) ∈ news) (hd : (d : Int) < 3) (h : ∀ l t, l = [a1, a2, a3].getD d [] → l ∈ [a1, a2, a3] → Q (.bytes l.toArray t) s)
    (hs : subscripted slice false (.ref a) (.int (d : Int) u) = operate [.ref a, .int (d : Int) u] (getItem (.ref a) (.int (d : Int) u)) := by with_unfolding_all rfl) :
    wpAny (model prog w) A (subscriptTail value slice (.ref a) (.int (d : Int) u)) Q E s := by
  refine itemTup_L (ends := [a1, a2, a3]) N hm (.cons ⟨_, rfl⟩ (.cons ⟨_, rfl⟩ (.cons ⟨_, rfl⟩ .nil))) (by simp) (by omega) (by simpa using hd) (fun t => h _ t rfl ?_) hs
  obtain rfl | rfl | rfl : d = 0 ∨ d = 1 ∨ d = 2 := by omega
  all_goals simp
end
local macro_rules | `(tactic| walk_at "subscriptTail") => `(tactic| ((with_reducible show wpAny _ _ (subscriptTail _ _ (Value.ref _) (Value.int _ _)) _ _ _); k_dflt (first | refine' menu4 (by k_asm) List.mem_cons_self (by assumption) ?_ | refine' menu3 (by k_asm) List.mem_cons_self (by assumption) ?_); k_whole; intro _ _ _ _))
local macro_rules | `(tactic| walk_at "eval IfExp") => `(tactic| ((fail_if_success rename Go => h); refine Stop.out ?_))
local macro_rules | `(tactic| walk_at "m:ok") => `(tactic| exact ⟨by assumption, by assumption, by assumption, by assumption⟩)
local macro_rules | `(tactic| walk_at "subscriptTail") => `(tactic| ((with_reducible show wpAny _ _ (subscriptTail _ _ (Value.ref _) (Value.int 0 _)) _ _ _); k_dflt (refine' item0T (by k_asm) (by k_mem) (by assumption) (by omega) (by assumption) (by assumption) ?_); k_whole; intro _))
local macro_rules | `(tactic| walk_at "compareOp NotEq ref ref") => `(tactic| (refine Stop.out ?_))
local macro_rules | `(tactic| walk_at "exec For Name Call cons nil") => `(tactic| ((with_reducible show wpAny _ _ (exec (Stmt.For (PySem.Expr.Name (Str.ofString "turn") _) _ _ _ _) _) _ _ _); refine Stop.out ?_))
local macro_rules | `(tactic| walk_at "exec For Name Tuple cons nil") => `(tactic| (refine Stop.out ?_))
theorem Stop.call {M : Model} {A : Around} {E Q : Value → Shared → Prop} {s : Shared} {n : Nat} {vs : List Value} (_ : n ≠ 107 ∧ n ≠ 100) (h : Stop (wpAny M A (PySem.call (.ref n) vs) Q E s)) : wpAny M A (PySem.call (.ref n) vs) Q E s := h
local macro_rules | `(tactic| walk_at "call ref") => `(tactic| (refine Stop.call (by decide) ?_))
local macro_rules | `(tactic| walk_at "compareOp NotEq int int") => `(tactic| (refine Stop.out ?_))
local macro_rules | `(tactic| walk_at "m:sub") => `(tactic| first | exact id | ((with_reducible refine sub_cons ?_); walk_at "m:sub") | ((with_reducible refine sub_app ?_); walk_at "m:sub") | exact List.mem_append_left _)
local macro_rules | `(tactic| walk_at "call builtin:list.append") => `(tactic| (rename Mark => h; refine Stop.out ?_))
local macro_rules | `(tactic| walk_at "exec Assign cons ListComp") => `(tactic| (rename Mark => h; refine Stop.out ?_))
local macro_rules | `(tactic| walk_at "eval ListComp") => `(tactic| (rename Mark => h; k_here; k_dflt (refine LCg.ListComp_U (F₀ := by k_asm) (by with_unfolding_all rfl) (by decide) (by rfl) (by decide) (by rfl) ?_)))
local macro_rules | `(tactic| walk_at "compareOp Eq ref ref") => `(tactic| (refine Stop.out ?_))
theorem law_holds : PySem.Challenge.rw_or0023_01.Holds := hd (by
  k_go0
  (all_goals try k_fold)
  k_steps
  refine Stop.into ?_
  refine For_at ?_
  rename IntsAre _ (List.map _ _) => hI8
  have hNat := nat_ints hI8 nats_of
  have hPl := pool24 hI8
  clear hI8
  k_steps
  refine Stop.into ?_
  rename IsRange _ _ _ _ _ _ _ _ => hRg
  rename Fr _ _ _ _ => lF'
  rename News _ _ _ _ => lN'
  with_unfolding_all
    refine law_rows [Str.ofString "turn", Str.ofString "lines", Str.ofString "more"] rfl hRg (by assumption) lF' lN' (by assumption) (by assumption) ?_ ?_
  · rintro i v ⟨pv, pk, rv, rk, tl, rows⟩ u h1 tk1 I oI hi ⟨hrv, hrok, hrl, hpn, hpl, hoff⟩ hIne hoffI F' N'
    dsimp only at *
    dsimp only [envOf, envOfC] at F' N'
    clear lF' lN' hoff
    have hvs1 : rv.length + 1 ≤ 16777216 := by rw [hrv.length]; omega
    refine (show wpAny _ _ _ _ _ _ from ?_)
    k_fold
    k_steps
    all_goals
      exact row_end (tl := tl) (by assumption) (by assumption) (by k_mem) (by k_mem) (by k_mem) (by k_mem) (fun p hp => by walk_at "m:in") (by k_mem) (by k_mem) ⟨by k_ne, by k_ne, by k_ne⟩ ⟨by k_ne, by k_ne, by k_ne, by k_ne⟩ ⟨by k_ne, by k_ne, by k_ne, by k_ne⟩ hoffI hrv hrok hrl (by assumption) (by assumption)
        (by first | exact .cons ⟨_, rfl⟩ (.cons ⟨_, rfl⟩ (.cons ⟨_, rfl⟩ .nil)) | exact .cons ⟨_, rfl⟩ (.cons ⟨_, rfl⟩ .nil) | exact .cons ⟨_, rfl⟩ .nil)
        ⟨by assumption, _, _, rfl, by assumption, by first | exact List.forall_mem_nil _ | exact List.forall_mem_cons.mpr ⟨by assumption, List.forall_mem_nil _⟩ | exact List.forall_mem_cons.mpr ⟨by assumption, List.forall_mem_cons.mpr ⟨by assumption, List.forall_mem_nil _⟩⟩, by simp⟩ (same_use (by walk_at "m:same"))
  · rintro ⟨pv, pk, rv, rk, tl, rows⟩ u h1 tk1 hrl ⟨hrv, hrok, _, hpn, hpl, hoff⟩ F' N'
    dsimp only at hrl hrv hrok hpn hpl hoff F' N'
    dsimp only [envOf, envOfC] at F' N'
    clear lF' lN'
    k_steps
    refine Stop.into ?_
    refine For_at ?_
    k_steps
    refine Stop.into ?_
    rename Fr _ _ _ _ => lF'
    rename News _ _ _ _ => lN'
    rename ((_ : Int) < 4) => hd4
    have hd4' := Int.ofNat_lt.mp hd4
    with_unfolding_all
      refine law_ends (tl := tl) (rows := rows) (rows.map fun r => stripL [32, 9] r.2.flatten) [Str.ofString "ends", Str.ofString "head", Str.ofString "spans", Str.ofString "behind", Str.ofString "due", Str.ofString "found", Str.ofString "place", Str.ofString "inner", Str.ofString "spot", Str.ofString "moved"] rfl lF' lN' (by k_mem) (by k_mem) (by k_mem) (by k_mem) (by k_mem) (by k_mem) (by assumption) (by k_mem) (fun p hp => by walk_at "m:in") hrv ⟨by k_ne, by k_ne, by k_ne, by k_ne, by k_ne, by k_ne⟩ (by k_all) ?_ ?_
    · skip
      repeat (rename (@LT.lt _ _ _ _ ∧ _) => hjunk; clear hjunk)
      repeat (rename (@Ne _ _ _ ∧ _) => hjunk; clear hjunk)
      intro ea es ne ends bv bk X u2 h2 tk2 I oI hends hea hes hrwX hcellX hrvX hbl hbX hne3 hoffX F' N'
      dsimp only [envOf, envOfC] at F' N'
      clear lF' lN'
      generalize he0 : ends.getD 0 [] = e0
      obtain ⟨hhl, hbulk, hel1, hel3, hel2, he01, he02, raws, hrwl, hrwx, hrwb, hP⟩ := plain hrok hrl hends he0 hd4'
      have hmark : Mark := trivial
      refine name_ends hne3 fun bd T hbd hT => ?_
      subst hbd hT
      refine (show wpAny _ _ _ _ _ _ from ?_)
      k_fold
      k_steps
      refine Stop.into ?_
      k_dflt (refine' tellsT_use ?k1 ?k2 ?k3 ?k4 ?k5 ?kK (laid_rel ?ra ?rb ?rc ?rd) (laid_ok _) ?ko ?kd ?ku ?_)
      case k1 | k2 | k3 | k4 | k5 => k_asm
      case ra => k_mem
      case rb => exact rows_up (by assumption) (fun p hp => by walk_at "m:in")
      case rc => k_mem
      case rd => assumption
      case kK => exact rfl
      case ko => walk_at "m:ok"
      case kd => ((try dsimp only); ktr_room)
      case ku => ((try dsimp only); ktr_units)
      intro r9 tl9 h9 tk9 F9 N9 hl9 ho9
      dsimp only at ho9
      obtain ⟨tp9, u9, sv9, svs9, k9, n9, e9, hm9, hs9, hA9⟩ := ho9
      subst e9
      try simp only [List.cons_append, List.append_assoc, List.nil_append] at N9
      try k_sweep
      k_steps
      refine Stop.into ?_
      refine name_nat hd4' fun d hd => ?_
      subst hd
      rename (_ = List.getD _ _ _) => hbh
      rename All2 (SpanIn _) _ _ => hAL
      rename ((_, W.listOf _ _) ∈ _) => hsL
      rename Apart _ _ => hapL
      rename (_ ∧ _ ∧ _ ∧ AllLt _ _) => hlD
      replace hbh := hbh.trans (show _ = behindOf e0 d from rfl)
      subst hbh
      have hbhl := behind_len hd4' he02
      rename (_ ∈ [[], [81, 58, 32, 114, 13, 10], [10]]) => hahm
      rename (_ ∈ [[], [32, 115], [84, 58, 32, 117, 10]]) => harm
      refine name_mem hahm fun ahead hn9 => ?_
      subst hn9
      refine name_mem harm fun around hn9 => ?_
      subst hn9
      have hahl := menu_len6 hahm
      have harl := menu_len5 harm
      refine join_int (dueOf e0 d) ?_ ?_
      · intro Q' hQ'
        clear hP
        have hgo : Go := trivial
        k_steps
        · refine (show Q' (Value.int _ _) _ from ?_)
          have he : dueOf e0 d = (e0.length : Int) := if_pos (by omega)
          rw [he] at hQ'
          exact hQ' _ _
        · refine (show Q' (Value.int _ _) _ from ?_)
          have he : dueOf e0 d = 0 := if_neg (by omega)
          rw [he] at hQ'
          exact hQ' _ _
      · intro td kd
        refine (show wpAny _ _ _ _ _ _ from ?_)
        k_steps
        refine Stop.into ?_
        k_dflt (refine' tellsT_use ?k1 ?k2 ?k3 ?k4 ?k5 ?kK read_rel1 (read_ok _) ?ko ?kd ?ku ?_)
        case k1 => k_asm
        case k2 => k_asm
        case k3 => k_asm
        case k4 => k_asm
        case k5 => k_asm
        case kK => exact rfl
        case ko => exact read_okI1 (by rw [List.length_append]; omega)
        case kd => ((try dsimp only); ktr_room)
        case ku => ((try dsimp only); ktr_units)
        intro r9 tlF h9 tk9 F9 N9 hapF ho9
        dsimp only at ho9
        obtain ⟨⟨fr, fp⟩, rvF, vsF, kF, tpF, nF, ttF, hRF, e9, hmF, hsF, hAF⟩ := ho9
        subst e9
        obtain ⟨hseen, hplace, hraw⟩ := plain_own hP _ hRF
        clear hRF
        dsimp only at hseen hplace hraw hmF hAF
        subst hplace
        have hfr : fr.length ≤ 5 := by
          have h := congrArg List.length hraw
          rw [List.length_map, hrwl] at h
          omega
        try k_sweep
        k_steps
        refine Stop.into ?_
        k_dflt (refine' tellsT_use ?k1 ?k2 ?k3 ?k4 ?k5 ?kK (seen_rel (rows := fr) ?ra ?rb) (seen_ok _) ?ko ?kd ?ku ?_)
        case k1 => k_asm
        case k2 => k_asm
        case k3 => k_asm
        case k4 => k_asm
        case k5 => k_asm
        case kK => exact rfl
        case ra => k_mem
        case rb => exact rowin_up hAF (fun p hp => by walk_at "m:in")
        case ko => (show fr.length ≤ _; omega)
        case kd => ((try dsimp only); ktr_room)
        case ku => ((try dsimp only); ktr_units)
        intro r9 tlS h9 tk9 F9 N9 hapS ho9
        dsimp only at ho9
        obtain ⟨saS, vsS, kS, e9, hsS, hAS⟩ := ho9
        subst e9
        rw [hseen] at hAS
        try k_sweep
        k_steps
        refine Stop.into ?_
        refine' ne_spans ?N ?h1 ?h2 (spans_up hAS ?sx) (spans_up hAL ?sy) rfl ?hu ?hv ?_
        case N => k_asm
        case h1 => k_mem
        case h2 => k_mem
        case sx => intro p hp; walk_at "m:in"
        case sy => intro p hp; walk_at "m:in"
        case hu => ((try dsimp only); ktr_units)
        case hv => ((try dsimp only); ktr_units)
        k_steps
        refine Stop.into ?_
        refine ne_int_same rfl ?_
        refine (show wpAny _ _ _ _ _ _ from ?_)
        k_steps
        refine Stop.into ?_
        have hAFl := hAF.length
        rename Fr _ _ _ _ => lF'
        rename News _ _ _ _ => lN'
        refine' LCg.CompSrc.ledger ?hh lF' lN' ?hra ?hz ?_
        case hh => exact rfl
        case hra => k_mem
        case hz => rw [List.size_toArray, hAFl, sizeLine_eq]; omega
        intro g2
        rw [show vsF.toArray.size = vsF.length by simp]
        refine comp_rest (ds := fr) (fun _ y d => ∃ rs, RowsOf d.raw 0 [] rs ∧ BytesIs y (stripL [32, 9] rs.flatten)) (fun _ _ _ _ _ hg => hg) hAFl ?_ ?_
        · intro i hi v I1 oI1 C1 oC1 Da1 m₂ ys1 tl1 h2 tk2 E' hv hC hx2 F' N' off1 ne1 ha1
          clear lF' lN'
          obtain ⟨hi2, hvi⟩ := List.getElem?_eq_some_iff.mp hv
          have hrow := hAF.get hi2
          rw [hvi] at hrow
          have hrawl : (fr[i]).raw.length ≤ 100000 := Nat.le_trans (hrwx _ (hraw ▸ List.mem_map.mpr ⟨_, List.getElem_mem _, rfl⟩)) (by decide)
          generalize hrw : fr[i] = row at hrow hrawl ⊢
          obtain ⟨t, f, dx, n, k1, k2, u1, u2, tb, te, rfl, hm1, hm2, hm3⟩ := hrow
          refine (show wpAny _ _ _ _ _ _ from ?_)
          k_fold
          k_steps
          rename Fr _ _ _ _ => F'
          rename News _ _ _ _ => N'
          rename RowsOf _ _ _ _ => hRs
          refine (show LCg.CompEnd _ _ _ _ _ _ _ _ _ _ _ _ _ _ from comp_end0 F' N' (fun p hp => ?_) off1 ha1 (Or.inr ⟨W.listOf vsF.toArray kF, List.mem_append_left _ ?_, rfl, _, rfl⟩) ⟨_, hRs, _, rfl⟩)
          · revert hp
            simp only [List.cons_append, List.append_assoc, List.nil_append]
            walk_at "m:sub"
          · k_mem
        · intro ys1 tl1 hys1 ha1
          unfold LCg.FinE
          intro D1 h1 tk1 F2 N2 o1
          clear lF' lN'
          have hbody := body_conv hys1 hraw hrwl hrwb
          clear hys1
          simp only [List.cons_append, List.append_assoc, List.nil_append] at N2 o1
          have oD := Off1_mem o1
          have hD1 : @Ne Nat bd D1 := oD (bd, W.listOf bv.toArray bk) (by k_mem)
          have hD1I : @Ne Nat I D1 := oD (I, oI) (by k_mem)
          clear oD o1
          k_steps
          refine Stop.into ?_
          refine squeeze N2 hlD hoffX hapL hapF hapS ha1 fun Y N3 hoffY hXY htLY htFY => ?_
          have hcellY := hXY _ hcellX
          have hALY := spans_up hAL htLY
          have hAFY := rowin_up hAF htFY
          have hsFY := htFY _ hsF
          have hsLY := htLY _ hsL
          clear N2 hlD hapL hapF hapS ha1 hsS hAS hmF hsF hsL hAF hAL htLY htFY
          k_dflt (refine' append_K ?k1 ?k2 ?k3 ?_ ?z)
          case k1 => k_asm
          case k2 => k_asm
          case k3 => exact PySem.W.Upd.tail (Ne.symm hD1) (PySem.W.Upd.tail hne3.1.symm (PySem.W.Upd.head (List.forall_mem_cons.mpr ⟨hne3.2.2, OwnOff.ne hoffY (.head _)⟩)))
          case z => exact size2 hbl
          intro h9 F3 N4
          clear N3 F2
          k_steps
          refine Stop.into ?_
          k_dflt (refine' tellsT_use ?k1 ?k2 ?k3 ?k4 ?k5 ?kK read_rel3 (read_ok _) ?ko ?kd ?ku ?_)
          case k1 => k_asm
          case k2 => k_asm
          case k3 => k_asm
          case k4 => k_asm
          case k5 => k_asm
          case kK => exact rfl
          case ko => exact read_okI3 (Int.natCast_nonneg _) (by omega) (by simp only [List.length_append]; omega) (by simp only [List.length_append]; omega)
          case kd => ((try dsimp only); ktr_room)
          case ku => ((try dsimp only); ktr_units)
          intro r9 tlG h9 tk9 F9 N9 hapG ho9
          dsimp only at ho9
          obtain ⟨⟨gr, gp⟩, rvG, vsG, kG, tpG, nG, ttG, hRG, e9, hmG, hsG, hAG⟩ := ho9
          subst e9
          obtain ⟨hgseen, hgplace, hgraw⟩ := hP _ _ _ hRG
          clear hRG
          dsimp only at hgseen hgplace hgraw hmG hAG
          subst hgplace
          have hgr : gr.length ≤ 5 := by
            have h := congrArg List.length hgraw
            rw [List.length_map, hrwl] at h
            omega
          try k_sweep
          k_steps
          refine Stop.into ?_
          rename Fr _ _ _ _ => lF'
          rename News _ _ _ _ => lN'
          refine squeeze2 lN' fun Z N6 hbZ hIZ hbdZ hTZ hYZ hGZ => ?_
          clear lN' hapG
          replace hcellY := hYZ _ hcellY
          replace hALY := spans_up hALY hYZ
          replace hAFY := rowin_up hAFY hYZ
          replace hsFY := hYZ _ hsFY
          replace hsLY := hYZ _ hsLY
          replace hAG := rowin_up hAG hGZ
          replace hsG := hGZ _ hsG
          clear hmG hoffY
          k_here
          (try k_iter_made)
          refine' Assign_Comp3 lF' ?hLe ?hsw ?hclos ?hcell ?hkind ?hnames ?hxa ?hxb ?hxc ?hba ?hca ?hcb ?hy ?hp ?hh9 ?hs
          case hLe => with_unfolding_all rfl
          case hsw => with_unfolding_all rfl
          case hclos => with_unfolding_all rfl
          case hcell => decide
          case hkind => with_unfolding_all rfl
          case hnames => decide
          case hxa => with_unfolding_all rfl
          case hxb => with_unfolding_all rfl
          case hxc => with_unfolding_all rfl
          case hba => decide
          case hca => decide
          case hcb => decide
          case hy => with_unfolding_all rfl
          case hp => with_unfolding_all rfl
          case hs => intro _; with_unfolding_all rfl
          k_steps
          have hspl : (laid ends rows).2.length ≤ 5 := by
            have h := congrArg List.length hseen
            rw [List.length_map] at h
            omega
          have hsvl := hALY.length
          rename Fr _ _ _ _ => lF'
          refine ⟨_, _, _, (laid ends rows).2, Z, fun tl y d => SpanIn tl y (shift ahead.length d), rfl, rfl, lF', N6, hsLY, ?_, hALY, fun _ _ _ _ h hg => hg.mono h, ?_, ?_⟩
          · rw [hsvl, sizeLine_eq]; omega
          · intro g i hi u tb te I2 oI2 C oC Da m₂ ys2 tl2 h2 tk2 E' hC hx1 hx2 hx3 F' N' off2 ne2 hap2
            clear lF' N6
            refine (show wpAny _ _ _ _ _ _ from ?_)
            k_fold
            k_steps
            rename Fr _ _ _ _ => F'
            rename News _ _ _ _ => N'
            rename (_ < _ ∧ _ < _ ∧ _ < _ ∧ AllLt _ _) => l1
            refine (show LCg.CompEnd _ _ _ _ _ _ _ _ _ _ _ _ _ _ from comp_end F' N' l1 off2 hap2 trivial ?_)
            exact ⟨_, _, _, _, _, rfl, List.mem_cons_self⟩
          · intro g ys2 tlM hys2 hap2
            unfold LCg.FinA
            intro D2 h2 tk2 F2 N2 o2
            clear lF' N6 o2 hap2
            have hAM := hys2.map (shift ahead.length)
            clear hys2
            k_steps
            refine Stop.into ?_
            k_dflt (refine' tellsT_use ?k1 ?k2 ?k3 ?k4 ?k5 ?kK (seen_rel (rows := gr) ?ra ?rb) (seen_ok _) ?ko ?kd ?ku ?_)
            case k1 => k_asm
            case k2 => k_asm
            case k3 => k_asm
            case k4 => k_asm
            case k5 => k_asm
            case kK => exact rfl
            case ra => k_mem
            case rb => exact rowin_up hAG (fun p hp => by walk_at "m:in")
            case ko => (show gr.length ≤ _; omega)
            case kd => ((try dsimp only); ktr_room)
            case ku => ((try dsimp only); ktr_units)
            intro r9 tlS h9 tk9 F9 N9 hapS ho9
            clear hapS
            dsimp only at ho9
            obtain ⟨saS, vsS, kS, e9, hsS, hAS⟩ := ho9
            subst e9
            rw [hgseen] at hAS
            try k_sweep
            k_steps
            refine Stop.into ?_
            refine' ne_spans ?N ?h1 ?h2 (spans_up hAS ?sx) (spans_up hAM ?sy) rfl ?hu ?hv ?_
            case N => k_asm
            case h1 => k_mem
            case h2 => k_mem
            case sx => intro p hp; walk_at "m:in"
            case sy => intro p hp; walk_at "m:in"
            case hu => ((try dsimp only); ktr_units)
            case hv => ((try dsimp only); ktr_units)
            k_steps
            refine Stop.into ?_
            refine ne_int_same rfl ?_
            refine (show wpAny _ _ _ _ _ _ from ?_)
            k_steps
            refine Stop.into ?_
            replace N9 := fun p hp => N9 p (List.mem_append_left _ (.tail _ (List.mem_append_left _ hp)))
            replace N9 := (show News _ _ _ Z from N9)
            clear hsS hAS
            rename Fr _ _ _ _ => lF'
            rename News _ _ _ _ => lN'
            have hAGl := hAG.length
            refine' LCg.CompSrc.ledger ?hh lF' lN' ?hra ?hz ?_
            case hh => exact rfl
            case hra => exact hsG
            case hz => rw [List.size_toArray, hAGl, sizeLine_eq]; omega
            intro g2
            rw [show vsG.toArray.size = vsG.length by simp]
            refine comp_rest (ds := gr) (fun _ y d => BytesIs y d.raw) (fun _ _ _ _ _ hg => hg) hAGl ?_ ?_
            · intro i hi v I1 oI1 C1 oC1 Da1 m₂ ys1 tl1 h2 tk2 E' hv hC hx2 F' N' off1 ne1 ha1
              clear lF' lN'
              obtain ⟨hi2, hvi⟩ := List.getElem?_eq_some_iff.mp hv
              have hrow := hAG.get hi2
              rw [hvi] at hrow
              generalize hrw : gr[i] = row at hrow ⊢
              obtain ⟨t, f, dx, n, k1, k2, u1, u2, tb, te, rfl, hm1, hm2, hm3⟩ := hrow
              refine (show wpAny _ _ _ _ _ _ from ?_)
              k_fold
              k_steps
              rename Fr _ _ _ _ => F'
              rename News _ _ _ _ => N'
              refine (show LCg.CompEnd _ _ _ _ _ _ _ _ _ _ _ _ _ _ from comp_end0 F' N' (fun p hp => ?_) off1 ha1 (Or.inr ⟨W.listOf vsG.toArray kG, List.mem_append_left _ hsG, rfl, _, rfl⟩) ⟨_, rfl⟩)
              · revert hp
                try simp only [List.cons_append, List.append_assoc, List.nil_append]
                walk_at "m:sub"
            · intro yA tlyA hys1 ha1
              unfold LCg.FinE
              intro DyA h1 tk1 F2 N2 o1
              clear lF' lN' o1 ha1
              have hyA := hys1.map (fun d : RowD => d.raw)
              rw [hgraw] at hyA
              clear hys1
              k_steps
              refine Stop.into ?_
              rename Fr _ _ _ _ => lF'
              rename News _ _ _ _ => lN'
              have hAFYl := hAFY.length
              refine' LCg.CompSrc.ledger ?hh lF' lN' ?hra ?hz ?_
              case hh => exact rfl
              case hra => exact List.mem_cons_of_mem _ (List.mem_append_left _ hsFY)
              case hz => rw [List.size_toArray, hAFYl, sizeLine_eq]; omega
              intro g2
              rw [show vsF.toArray.size = vsF.length by simp]
              refine comp_rest (ds := fr) (fun _ y d => BytesIs y d.raw) (fun _ _ _ _ _ hg => hg) hAFYl ?_ ?_
              · intro i hi v I1 oI1 C1 oC1 Da1 m₂ ys1 tl1 h2 tk2 E' hv hC hx2 F' N' off1 ne1 ha1
                clear lF' lN'
                obtain ⟨hi2, hvi⟩ := List.getElem?_eq_some_iff.mp hv
                have hrow := hAFY.get hi2
                rw [hvi] at hrow
                generalize hrw : fr[i] = row at hrow ⊢
                obtain ⟨t, f, dx, n, k1, k2, u1, u2, tb, te, rfl, hm1, hm2, hm3⟩ := hrow
                refine (show wpAny _ _ _ _ _ _ from ?_)
                k_fold
                k_steps
                rename Fr _ _ _ _ => F'
                rename News _ _ _ _ => N'
                refine (show LCg.CompEnd _ _ _ _ _ _ _ _ _ _ _ _ _ _ from comp_end0 F' N' (fun p hp => ?_) off1 ha1 (Or.inr ⟨W.listOf vsF.toArray kF, List.mem_append_left _ (List.mem_cons_of_mem _ (List.mem_append_left _ hsFY)), rfl, _, rfl⟩) ⟨_, rfl⟩)
                · revert hp
                  try simp only [List.cons_append, List.append_assoc, List.nil_append]
                  walk_at "m:sub"
              · intro yB tlyB hys1 ha1
                unfold LCg.FinE
                intro DyB h1 tk1 F2 N2 o1
                clear lF' lN' o1 ha1
                have hyB := hys1.map (fun d : RowD => d.raw)
                rw [hraw] at hyB
                clear hys1
                k_steps
                refine Stop.into ?_
                refine' ne_bytess ?N ?h1 ?h2 hyA hyB ?hu ?_
                case N => k_asm
                case h1 => exact List.mem_cons_of_mem _ (List.mem_append_left _ (.head _))
                case h2 => exact .head _
                case hu => ((try dsimp only); ktr_units)
                k_steps
                have hsubZ : ∀ p ∈ Z, p ∈ (DyB, LCg.lst yB) :: ((DyA, LCg.lst yA) :: (Z ++ tlyA) ++ tlyB) := fun p hp => List.mem_cons_of_mem _ (List.mem_append_left _ (List.mem_cons_of_mem _ (List.mem_append_left _ hp)))
                refine (show EndsEnd _ _ _ _ _ _ _ _ _ _ _ _ _ _ from ends_end F2 N2 (hsubZ _ hIZ) (hsubZ _ hbdZ) (hsubZ _ hTZ) (hsubZ _ hbZ) (fun p hp => hsubZ _ (hYZ _ (hXY _ hp))) hbody hD1I.symm hD1.symm ?_)
                walk_at "m:same"
    · intro v0 v1 v2 bk X u2 h2 tk2 hb0 hb1 hb2 hoffX hcellX F' N'
      dsimp only [envOf, envOfC] at F' N'
      clear lF' lN'
      obtain ⟨a0, xs0, k0, rfl, hm0, hA0⟩ := hb0
      obtain ⟨a1, xs1, k1, rfl, hm1, hA1⟩ := hb1
      obtain ⟨a2, xs2, k2, rfl, hm2, hA2⟩ := hb2
      refine (show wpAny _ _ _ _ _ _ from ?_)
      try k_fold
      k_steps
      refine Stop.into ?_
      refine' ne_bytess ?N ?h1 ?h2 hA0 hA1 ?hu ?_
      case N => k_asm
      case h1 => exact .tail _ (by assumption)
      case h2 => exact .tail _ (by assumption)
      case hu => ((try dsimp only); ktr_units)
      k_steps
      refine Stop.into ?_
      refine' ne_bytess ?N ?h1 ?h2 hA0 hA2 ?hu ?_
      case N => k_asm
      case h1 => exact .tail _ (by assumption)
      case h2 => exact .tail _ (by assumption)
      case hu => ((try dsimp only); ktr_units)
      k_steps
      refine Stop.into ?_
      k_dflt (refine' tellsT_use ?k1 ?k2 ?k3 ?k4 ?k5 ?kK read_rel1 (read_ok _) ?ko ?kd ?ku ?_)
      case k1 => k_asm
      case k2 => k_asm
      case k3 => k_asm
      case k4 => k_asm
      case k5 => k_asm
      case kK => exact rfl
      case ko => exact read_okI1 (by decide)
      case kd => ((try dsimp only); ktr_room)
      case ku => ((try dsimp only); ktr_units)
      intro r9 tlF h9 tk9 F9 N9 hapF ho9
      clear hapF
      dsimp only at ho9
      obtain ⟨⟨fr, fp⟩, rvF, vsF, kF, tpF, nF, ttF, hRF, e9, hmF, hsF, hAF⟩ := ho9
      subst e9
      obtain ⟨hseen, hplace, hfr⟩ := lit_reads hRF
      clear hRF
      dsimp only at hseen hplace hmF hAF hfr
      subst hplace
      try k_sweep
      k_steps
      refine Stop.into ?_
      k_dflt (refine' tellsT_use ?k1 ?k2 ?k3 ?k4 ?k5 ?kK (seen_rel (rows := fr) ?ra ?rb) (seen_ok _) ?ko ?kd ?ku ?_)
      case k1 => k_asm
      case k2 => k_asm
      case k3 => k_asm
      case k4 => k_asm
      case k5 => k_asm
      case kK => exact rfl
      case ra => k_mem
      case rb => exact rowin_up hAF (fun p hp => by walk_at "m:in")
      case ko => (show fr.length ≤ _; omega)
      case kd => ((try dsimp only); ktr_room)
      case ku => ((try dsimp only); ktr_units)
      intro r9 tlS h9 tk9 F9 N9 hapS ho9
      clear hapS
      dsimp only at ho9
      obtain ⟨saS, vsS, kS, e9, hsS, hAS⟩ := ho9
      subst e9
      rw [hseen] at hAS
      try k_sweep
      k_steps
      refine Stop.into ?_
      refine' eq_spans (ys := [_, _]) ?N ?h1 ?h2 (spans_up hAS ?sx) (.cons ⟨_, _, _, _, _, rfl, ?m1⟩ (.cons ⟨_, _, _, _, _, rfl, ?m2⟩ .nil)) rfl ?hu ?hv ?_
      case N => k_asm
      case h1 => k_mem
      case h2 => k_mem
      case m1 => k_mem
      case m2 => k_mem
      case sx => intro p hp; walk_at "m:in"
      case hu => ((try dsimp only); ktr_units)
      case hv => ((try dsimp only); ktr_units)
      k_steps)
end Mine
theorem PySem.Challenge.cw_or0023_01_holds : PySem.Challenge.rw_or0023_01.Holds :=
  Mine.law_holds
