import PyProof.Rows.All
import Wide.All
import OpenK.AllK
import Wide.FinOn
import Lean
import PySem.Challenge.RW_no0348_01
set_option Elab.async false

namespace Mine
section
open PySem PySem.W PySem.Calls PyProof.Rows
set_option maxRecDepth 100000
set_option linter.unusedVariables false
open Builtin

-- bytes.find
theorem slot_find : Slot "bytes" "find" "bytes.find" :=
  .of (owner := "bytes") (n := "find") (by rw [typeLookup_type, builtinLookup_eq_fast]; kernel_rfl) (by decide +kernel) (by decide +kernel) (by decide +kernel)
    (by first | exact .inl (by decide +kernel) | exact .inr (by decide +kernel)) (by rw [isSubtype_type]; kernel_rfl)
theorem type_find : typeOf (.builtin "bytes.find") = pure (.type "method_descriptor") := by show builtinType _ = _; rw [builtinType_eq_fast]; kernel_rfl
theorem entry_find : entryFor table "bytes.find" = some Builtin.«bytes.find» := entryFor_of_tree (by kernel_rfl)
theorem args_find (a b c : Value) : argsOk "bytes.find" ⟨[a, b, c], []⟩ := by
  unfold argsOk; rw [signature?_of (id := "bytes.find") (n := ['d', 'n', 'i', 'f']) (o := ['s', 'e', 't', 'y', 'b']) (by kernel_rfl) FB.owner_bytes]; kernel_rfl

/-- what find answers -/
def findI (b sub : Array UInt8) (i : Int) : Int :=
  if (b.size : Int) - i < sub.size then -1 else
    match Bytes.find? b sub i.toNat b.size with
    | some j => j
    | none => -1

theorem gives_find (b sub : Array UInt8) (t u v : Tok) (i : Int) (h0 : 0 ≤ i) :
    Gives («bytes.find» ⟨[.bytes b t, .bytes sub u, .int i v], []⟩) (.int (findI b sub i)) := by
  refine .of_wp fun M A E s Q hq => ?_
  show wpAny M A (Bytes.searchArgs .bytes "find" ⟨[.bytes b t, .bytes sub u, .int i v], []⟩ >>= fun r => _) _ E s
  refine wpAny_bind ?_
  show wpAny M A (Bytes.bound? (some (.int i v)) >>= fun r => _) _ E s
  refine wpAny_bind ?_
  unfold Bytes.bound?
  refine wpAny_bind (wpAny_specialOf (T := "int") (typeIs_int _ _ _) F.slot_int_index.lookup ?_)
  refine wpAny_ite (KBy.ite_no (show ¬ (Option.isNone (some _) = true) from Bool.false_ne_true) ?_)
  refine wpAny_bind (wpAny_of_eq (a := i) rfl (wpAny_pure ?_))
  refine wpAny_bind (wpAny_pure ?_)
  show wpAny M A (Bytes.buffer? _ (.bytes sub u) >>= fun r => _) _ E s
  refine wpAny_bind (wpAny_of_eq KBy.buffer_eq ?_)
  refine wpAny_bind (wpAny_pure ?_)
  refine wpAny_bind (wpAny_of_eq (a := b) rfl ?_)
  refine wpAny_pure ?_
  dsimp only
  simp only [Option.getD_some, Option.getD_none, if_neg (show ¬ i < 0 by omega), if_neg (show ¬ (b.size : Int) < 0 by omega), Int.min_self, Int.toNat_natCast]
  unfold findI at hq
  by_cases hc : (b.size : Int) - i < sub.size
  · rw [if_pos hc] at hq ⊢
    dsimp only [Option.bind_none]
    refine wpAny_bind (wpAny_rule ?_)
    exact wpAny_bind (wpAny_mkInt (wpAny_pure ⟨_, rfl, hq⟩))
  · rw [if_neg hc] at hq ⊢
    simp only [Option.bind_some, Bool.false_eq_true, if_false, Int.toNat_natCast] at hq ⊢
    cases hf : Bytes.find? b sub i.toNat b.size with
    | none =>
      rw [hf] at hq
      refine wpAny_bind (wpAny_rule ?_)
      exact wpAny_bind (wpAny_mkInt (wpAny_pure ⟨_, rfl, hq⟩))
    | some j =>
      rw [hf] at hq
      exact wpAny_bind (wpAny_mkInt (wpAny_pure ⟨_, rfl, hq⟩))

section
variable {prog : Program} {w : World} {A : Around} {E : Value → Shared → Prop} {s : Shared}
theorem call_find {b sub : Array UInt8} {t u v : Tok} {i : Int} {Q : Value → Shared → Prop} (h0 : 0 ≤ i)
    (h : Q (.int (findI b sub i) s.toks) { s with toks := s.toks + 1 }) :
    wpAny (model prog w) A (call (.builtin "bytes.find") [.bytes b t, .bytes sub u, .int i v]) Q E s :=
  call_gives slot_find (typeIs_bytes _ _ _) entry_find (args_find _ _ _) (gives_find b sub t u v i h0) h
end
end

section
open PySem PySem.W PySem.Calls PyProof.Rows
set_option maxRecDepth 100000
set_option linter.unusedVariables false
open Builtin

-- bytes.join
theorem slot_join : Slot "bytes" "join" "bytes.join" :=
  .of (owner := "bytes") (n := "join") (by rw [typeLookup_type, builtinLookup_eq_fast]; kernel_rfl) (by decide +kernel) (by decide +kernel) (by decide +kernel)
    (by first | exact .inl (by decide +kernel) | exact .inr (by decide +kernel)) (by rw [isSubtype_type]; kernel_rfl)
theorem type_join : typeOf (.builtin "bytes.join") = pure (.type "method_descriptor") := by show builtinType _ = _; rw [builtinType_eq_fast]; kernel_rfl
theorem entry_join : entryFor table "bytes.join" = some Builtin.«bytes.join» := entryFor_of_tree (by kernel_rfl)
theorem args_join (a b : Value) : argsOk "bytes.join" ⟨[a, b], []⟩ := by
  unfold argsOk; rw [signature?_of (id := "bytes.join") (n := ['n', 'i', 'o', 'j']) (o := ['s', 'e', 't', 'y', 'b']) (by kernel_rfl) FB.owner_bytes]; kernel_rfl

theorem buffer_any {b : Array UInt8} {t : Tok} {id : String} {full : Bool} : Bytes.buffer? id (.bytes b t) full = pure (some b) := by
  unfold Bytes.buffer?
  rw [KBy.special_eq KBy.look_buffer, KBy.own_buffer, KBy.own_release]
  kernel_rfl
theorem takeQuiet_eq {b : Array UInt8} {t : Tok} {id : String} : Bytes.takeBufferQuiet? id (.bytes b t) 0 = pure (some (b, none)) := by
  unfold Bytes.takeBufferQuiet? Bytes.takeBuffer?
  simp only [KBy.special_eq KBy.look_buffer, KBy.own_buffer, buffer_any]
  kernel_rfl

def AreBytes (bs : List (Array UInt8)) (vs : List Value) : Prop := vs.length = bs.length ∧ ∀ (i : Nat) (b : Array UInt8), bs[i]? = some b → ∃ t, vs[i]? = some (Value.bytes b t)

def sumSizes (bs : List (Array UInt8)) : Nat := (bs.map (·.size)).sum

theorem joinLetGo_ok {M : Model} {A : Around} {E : Value → Shared → Prop} {s : Shared} {Q : Unit → Shared → Prop} (h : Q () s) (keep : List Value) :
    ∀ l : List (Value × Option Value), (∀ p ∈ l, p.2 = none) → wpAny M A (Bytes.joinLetGo l keep) Q E s
  | [], _ => wpAny_pure h
  | (x, w) :: rest, hn => by
    have hw : w = none := hn (x, w) List.mem_cons_self
    subst hw
    unfold Bytes.joinLetGo
    dsimp only
    refine wpAny_bind (m := letGo _ _) ?_
    simp only [Option.toList_none, letGo]
    refine wpAny_bind (wpAny_holding (wpAny_point (wpAny_pure ?_)))
    exact joinLetGo_ok h keep rest fun p hp => hn p (List.mem_cons_of_mem _ hp)

theorem size_flat (bs : List (Array UInt8)) : bs.toArray.flatten.size = sumSizes bs := by
  rw [Array.size_flatten]; simp [sumSizes]
theorem joined_fold : ∀ (l : List (Array UInt8 × Nat)) (acc : Array UInt8),
    l.foldl (fun out (p : Array UInt8 × Nat) => (if p.2 > 0 then out ++ (#[] : Array UInt8) else out) ++ p.1) acc = acc ++ (l.map (·.1)).toArray.flatten
  | [], acc => by simp
  | (x, i) :: r, acc => by
    rw [List.foldl_cons, joined_fold r]
    have e : (if i > 0 then acc ++ (#[] : Array UInt8) else acc) = acc := by split <;> simp
    dsimp only
    rw [e]
    apply Array.toList_inj.mp
    simp [Array.toList_flatten]
theorem joined_flat (bs : List (Array UInt8)) : Bytes.joined #[] bs = bs.toArray.flatten := by
  unfold Bytes.joined
  have h := joined_fold bs.zipIdx #[]
  simp only [List.zipIdx_map_fst, Array.empty_append] at h
  exact h

theorem meets_join (t : Tok) (a : Addr) (vs : List Value) (bs : List (Array UInt8)) (hb : AreBytes bs vs) :
    Meets («bytes.join» ⟨[.bytes #[] t, .ref a], []⟩) (fun _ R s => s.heap.IsList a vs.toArray ∧ sumSizes bs ≤ sizeLine ∧
      ∀ t' k, R (.ok (.ret (.bytes bs.toArray.flatten t'))) { s with toks := k }) := by
  refine .of_wp fun prog w A R s hS => ?_
  obtain ⟨hl, hz, h⟩ := hS
  obtain ⟨o, ho, hc, n, hd⟩ := id hl
  show wpAny _ _ (Bytes.joinItems (.ref a) >>= fun r => _) _ _ s
  refine wpAny_bind ?_
  unfold Bytes.joinItems
  refine wpAny_bind (wpAny_typeOf hl.typeIs ?_)
  refine wpAny_ite (KBc.ite_yes (by decide) (wpAny_pure ?_))
  show wpAny _ _ (seqItems? (.ref a) >>= fun r => _) _ _ s
  refine wpAny_bind (wpAny_seqItems ho hd ?_)
  have fin : ∀ (b : Array UInt8) (u : Tok), b = bs.toArray.flatten → ∀ k, R (.ok (.ret (.bytes b u))) { s with toks := k } := fun b u e k => by rw [e]; exact h u k
  show wpAny _ _ (if (Bytes.Kind.bytes == Bytes.Kind.bytes) = true then _ else _) _ _ s
  refine wpAny_ite (KBc.ite_yes rfl ?_)
  rcases vs with _ | ⟨v, _ | ⟨y, r⟩⟩
  case cons.nil =>
    obtain ⟨hlen, hat⟩ := hb
    match bs, hlen, hat, fin with
    | [b], _, hat, fin =>
      obtain ⟨u, hu⟩ := hat 0 b rfl
      obtain rfl : v = .bytes b u := Option.some.inj hu
      show wpAny _ _ (typeOf (.bytes b u) >>= fun r => _) _ _ s
      refine wpAny_bind (wpAny_typeOf (typeIs_bytes _ b u) ?_)
      refine wpAny_ite (KBc.ite_yes (by decide) ?_)
      exact wpAny_bind (wpAny_rule (wpAny_pure ⟨_, rfl, fin b u (by simp) s.toks⟩))
  case' nil => (show wpAny _ _ (forIn [:([] : List Value).toArray.size] _ _ >>= fun r => _) _ _ s; generalize ([] : List Value) = vs at *)
  case' cons.cons => (show wpAny _ _ (forIn [:(v :: y :: r).toArray.size] _ _ >>= fun r => _) _ _ s; generalize (v :: y :: r : List Value) = vs at *)
  all_goals
    refine wpAny_bind ?_
    rw [KPc.range_list]
    refine wpAny_forIn_list _ (fun rest b s' => s' = s ∧ ∃ i, rest = List.range' i (vs.length - i) 1 ∧ i ≤ vs.length ∧ b.1 = (bs.take i).toArray ∧ ∀ p ∈ b.2, p.2 = none ∧ p.1.onHeap = false) _ ?_ ?_ _ _ ⟨rfl, 0, by simp, Nat.zero_le _, by simp, fun p hp => by cases hp⟩
    · rintro i rest ⟨parts, taken⟩ _ ⟨rfl, j, hr, hj, hp, hk⟩
      dsimp only at hp hk
      have hlt : j < vs.length := by
        rcases Nat.lt_or_ge j vs.length with q | q
        · exact q
        · rw [Nat.sub_eq_zero_of_le q] at hr; cases hr
      obtain ⟨m, hm⟩ : ∃ m, vs.length - j = m + 1 := ⟨vs.length - j - 1, by omega⟩
      rw [hm, List.range'_succ] at hr
      injection hr with e1 e2
      subst e1
      have hlb : i < bs.length := hb.1 ▸ hlt
      obtain ⟨u, hu⟩ := hb.2 i bs[i] (List.getElem?_eq_getElem hlb)
      refine wpAny_bind (wpAny_seqItems ho hd ?_)
      dsimp only
      have hx : vs.toArray.getD i Value.none = .bytes bs[i] u := by
        simp [Array.getD_eq_getD_getElem?, hu]
      rw [hx]
      have hany : (taken.any fun x => x.fst.onHeap) = false := by
        rw [List.any_eq_false]
        intro p hp'
        rw [(hk p hp').2]; exact Bool.false_ne_true
      simp only [hany, Bool.or_false]
      refine wpAny_ite (KBy.ite_no (by decide) ?_)
      refine wpAny_bind (wpAny_holding (wpAny_of_eq takeQuiet_eq ?_))
      dsimp only
      refine wpAny_bind (wpAny_seqItems ho hd ?_)
      dsimp only
      refine wpAny_ite (KBy.ite_no (by simp) (wpAny_pure ?_))
      refine ⟨rfl, i + 1, by rw [e2]; congr 1; omega, hlt, ?_, ?_⟩
      · dsimp only
        rw [hp, List.take_add_one, List.getElem?_eq_getElem hlb]
        simp
      · intro p hp'
        rcases List.mem_append.mp hp' with q | q
        · exact hk p q
        · rw [List.mem_singleton.mp q]; exact ⟨rfl, rfl⟩
    · rintro ⟨parts, taken⟩ _ ⟨rfl, j, hr, hj, hp, hk⟩
      dsimp only at hp hk
      have hjl : j = vs.length := by
        rcases Nat.lt_or_ge j vs.length with q | q
        · obtain ⟨m, hm⟩ : ∃ m, vs.length - j = m + 1 := ⟨vs.length - j - 1, by omega⟩
          rw [hm, List.range'_succ] at hr; cases hr
        · omega
      have hp : parts = bs.toArray := by
        rw [hp, hjl, hb.1, List.take_length]
      subst hp
      refine wpAny_bind (wpAny_of_eq (a := #[]) rfl ?_)
      have hsum : ∀ (l : List (Array UInt8)) (a : Nat), l.foldl (fun x1 x2 => x1 + x2.size) a = a + sumSizes l := by
        intro l
        induction l with
        | nil => intro a; simp [sumSizes]
        | cons x l ih => intro a; rw [List.foldl_cons, ih]; simp [sumSizes]; omega
      refine wpAny_ite (KBy.ite_no ?_ ?_)
      · simp only [Array.size_empty, Nat.zero_mul]
        have e : Array.foldl (fun (x1 : Nat) (x2 : Array UInt8) => x1 + x2.size) 0 bs.toArray 0 bs.toArray.size = sumSizes bs := by
          rw [List.foldl_toArray' _ _ _ rfl, hsum, Nat.zero_add]
        rw [e, KBy.tooLong_not (by rw [← sizeLine_eq]; exact hz)]
        exact Bool.false_ne_true
      refine wpAny_bind (m := mkBytes _) (wpAny_mkBytes ?_ ?_)
      · refine wpAny_bind (wpAny_holding (wpAny_point ?_))
        refine wpAny_bind (joinLetGo_ok ?_ _ _ fun p hp => (hk p hp).1)
        exact wpAny_pure ⟨_, rfl, fin _ _ (joined_flat bs) _⟩
      · rw [joined_flat, size_flat]; exact hz

section
variable {prog : Program} {w : World} {A : Around} {E : Value → Shared → Prop} {s : Shared}
theorem call_join {a : Addr} {vs : List Value} {bs : List (Array UInt8)} {t : Tok} {Q : Value → Shared → Prop} (hl : s.heap.IsList a vs.toArray) (hb : AreBytes bs vs) (hz : sumSizes bs ≤ sizeLine)
    (h : ∀ t' k, Q (.bytes bs.toArray.flatten t') { s with toks := k }) :
    wpAny (model prog w) A (call (.builtin "bytes.join") [.bytes #[] t, .ref a]) Q E s :=
  call_meets slot_join (typeIs_bytes _ _ _) entry_join (args_join _ _) (meets_join t a vs bs hb) ⟨hl, hz, h⟩
end
end

section
open PySem PySem.W PySem.Calls PyProof.Rows
set_option maxRecDepth 100000
set_option linter.unusedVariables false
open Builtin

-- str.encode('ascii')
theorem slot_encode : Slot "str" "encode" "str.encode" :=
  .of (owner := "str") (n := "encode") (by rw [typeLookup_type, builtinLookup_eq_fast]; kernel_rfl) (by decide +kernel) (by decide +kernel) (by decide +kernel)
    (by first | exact .inl (by decide +kernel) | exact .inr (by decide +kernel)) (by rw [isSubtype_type]; kernel_rfl)
theorem type_encode : typeOf (.builtin "str.encode") = pure (.type "method_descriptor") := by show builtinType _ = _; rw [builtinType_eq_fast]; kernel_rfl
theorem entry_encode : entryFor table "str.encode" = some Builtin.«str.encode» := entryFor_of_tree (by kernel_rfl)
theorem args_encode (a b : Value) : argsOk "str.encode" ⟨[a, b], []⟩ := by
  unfold argsOk; rw [signature?_of (id := "str.encode") (n := ['e', 'd', 'o', 'c', 'n', 'e']) (o := ['r', 't', 's']) (by kernel_rfl) F.owner_str]; kernel_rfl

theorem encode_tree (x : PySem.Str) (t u : Tok) : «str.encode» ⟨[.str x t, .str (PySem.Str.ofString "ascii") u], []⟩ =
    ((_codecs.encodeNarrow "str.encode" _codecs.asciiCodec none (.str x t) x >>= fun b => mkBytes b) >>= fun v => ret v) := by kernel_rfl

/-- the octets of a text -/
def octetsOf (x : PySem.Str) : Array UInt8 := x.cps.map Nat.toUInt8

theorem narrow_ok {M : Model} {A : Around} {E : Value → Shared → Prop} {s : Shared} {id : String} {self : Value} {x : PySem.Str} {Q : Array UInt8 → Shared → Prop}
    (hx : ∀ c ∈ x.cps.toList, c < 128) (hz : x.cps.size ≤ sizeLine) (h : Q (octetsOf x) s) : wpAny M A (_codecs.encodeNarrow id _codecs.asciiCodec none self x) Q E s := by
  have bad : ∀ c ∈ x.cps.toList, _codecs.asciiCodec.bad c = false := fun c hc => by
    have := hx c hc
    show decide (c ≥ 128) = false
    exact decide_eq_false (by omega)
  unfold _codecs.encodeNarrow
  dsimp only
  refine wpAny_bind ?_
  rw [KPc.range_list]
  have nobad : ∀ y : Array Nat, (∀ c ∈ y.toList, c < 128) → Array.findIdx? _codecs.asciiCodec.bad y = none := fun y hy => by
    rw [Array.findIdx?_eq_none_iff]
    intro c hc
    have := hy c (Array.mem_toList_iff.mpr hc)
    show decide (c ≥ 128) = false
    exact decide_eq_false (by omega)
  refine wpAny_forIn_list _ (fun rest b s' => s' = s ∧ ((b.1 = 0 ∧ b.2.1 = #[] ∧ rest = List.range' 0 x.length 1) ∨ (b.1 = x.cps.size ∧ b.2.1 = octetsOf x))) _ ?_ ?_ _ _ ⟨rfl, .inl ⟨rfl, rfl, rfl⟩⟩
  · rintro i rest ⟨j, out, st⟩ _ ⟨rfl, hI⟩
    dsimp only at hI ⊢
    have hsz : ¬ out.size > sizeLine := by
      rcases hI with ⟨_, rfl, _⟩ | ⟨_, rfl⟩
      · exact Nat.not_lt.mpr (Nat.zero_le _)
      · unfold octetsOf; rw [Array.size_map]; exact Nat.not_lt.mpr hz
    refine wpAny_ite (KBy.ite_no hsz ?_)
    rcases hI with ⟨rfl, rfl, hr⟩ | ⟨rfl, rfl⟩
    · have hpos : 0 < x.cps.size := by
        rcases Nat.eq_zero_or_pos x.length with q | q
        · rw [q] at hr; cases hr
        · exact q
      have e0 : x.cps[0]? = some x.cps[0] := Array.getElem?_eq_getElem hpos
      rw [e0]
      dsimp only
      have eb : _codecs.asciiCodec.bad x.cps[0] = false := bad _ (by simp)
      simp only [eb, Bool.not_false, if_true]
      have en : Array.findIdx? _codecs.asciiCodec.bad (x.cps.extract 0) = none := nobad _ (by simpa using hx)
      rw [en]
      refine wpAny_pure ⟨rfl, .inr ⟨by simp, ?_⟩⟩
      show Array.foldl (fun acc y => acc ++ (_codecs.asciiCodec.bytesOf y).toArray) #[] _ = octetsOf x
      have ee : (x.cps.extract 0).extract 0 ((none : Option Nat).getD (x.cps.extract 0).size) = x.cps := by simp
      rw [ee]
      have key : ∀ (l : List Nat) (acc : Array UInt8), l.foldl (fun acc y => acc ++ (_codecs.asciiCodec.bytesOf y).toArray) acc = acc ++ (l.map Nat.toUInt8).toArray := by
        intro l
        induction l with
        | nil => intro acc; simp
        | cons c l ih =>
          intro acc
          rw [List.foldl_cons, ih]
          show (acc ++ [c.toUInt8].toArray) ++ _ = _
          simp
      rw [← Array.foldl_toList, key]
      unfold octetsOf
      apply Array.toList_inj.mp
      simp
    · have e0 : x.cps[x.cps.size]? = none := by simp
      rw [e0]
      exact wpAny_pure (wpAny_pure h)
  · rintro ⟨j, out, st⟩ _ ⟨rfl, hI⟩
    dsimp only at hI ⊢
    refine wpAny_pure ?_
    rcases hI with ⟨rfl, rfl, hr⟩ | ⟨rfl, rfl⟩
    · have h0 : x.length = 0 := by
        have := congrArg List.length hr
        simpa using this.symm
      have e : octetsOf x = #[] := by
        unfold octetsOf
        have : x.cps = #[] := Array.eq_empty_of_size_eq_zero h0
        rw [this]; simp
      rw [← e]; exact h
    · exact h
section
variable {prog : Program} {w : World} {A : Around} {E : Value → Shared → Prop} {s : Shared}
theorem gives_encode (x : PySem.Str) (t u : Tok) (hx : ∀ c ∈ x.cps.toList, c < 128) (hz : x.cps.size ≤ sizeLine) :
    Gives («str.encode» ⟨[.str x t, .str (PySem.Str.ofString "ascii") u], []⟩) (.bytes (octetsOf x)) := by
  refine .of_wp fun M A E s Q hq => ?_
  rw [encode_tree]
  exact wpAny_bind (wpAny_bind (narrow_ok hx hz (wpAny_mkBytes (wpAny_pure ⟨_, rfl, hq.2⟩) hq.1)))
theorem call_encode {x : PySem.Str} {t u : Tok} {Q : Value → Shared → Prop} (hx : ∀ c ∈ x.cps.toList, c < 128) (hz : x.cps.size ≤ sizeLine)
    (h : ∀ t' k, Q (.bytes (octetsOf x) t') { s with toks := k }) :
    wpAny (model prog w) A (call (.builtin "str.encode") [.str x t, .str (PySem.Str.ofString "ascii") u]) Q E s :=
  call_gives slot_encode (typeIs_str _ _ _) entry_encode (args_encode _ _) (gives_encode x t u hx hz) ⟨by unfold octetsOf; rw [Array.size_map]; exact hz, h _ _⟩
end
end

section
open PySem PySem.W PySem.Calls PyProof.Rows
set_option maxRecDepth 100000
set_option linter.unusedVariables false
/-- data as the law sees it; lists and dicts by their address -/
inductive AV where
  | raw (v : Value)
  | int (i : Int)
  | str (x : PySem.Str)
  | byt (b : List UInt8)
  | tup (l : List AV)

abbrev AV.none : AV := .raw .none
abbrev AV.bool (b : Bool) : AV := .raw (.bool b)
abbrev AV.ref (a : Addr) : AV := .raw (.ref a)

mutual
def VR (h : Heap) : AV → Value → Prop
  | .raw u, v => v = u
  | .int i, v => ∃ t, v = .int i t
  | .str x, v => ∃ t, v = .str x t
  | .byt b, v => ∃ t, v = .bytes b.toArray t
  | .tup l, v => ∃ a vs, v = .ref a ∧ IsTup h a (List.toArray vs) ∧ VRs h l vs
def VRs (h : Heap) : List AV → List Value → Prop
  | [], vs => vs = []
  | x :: l, vs => ∃ v r, vs = v :: r ∧ VR h x v ∧ VRs h l r
end

/-- tuples stay -/
def TK (h h' : Heap) : Prop := ∀ a items, IsTup h a items → IsTup h' a items
theorem TK.refl (h : Heap) : TK h h := fun _ _ x => x
theorem TK.trans {h h' h'' : Heap} (a : TK h h') (b : TK h' h'') : TK h h'' := fun x i y => b x i (a x i y)

mutual
theorem VR.tk {h h' : Heap} (k : TK h h') : ∀ {a : AV} {v : Value}, VR h a v → VR h' a v
  | .raw _, _, x => by unfold VR at *; exact x
  | .int _, _, x => by unfold VR at *; exact x
  | .str _, _, x => by unfold VR at *; exact x
  | .byt _, _, x => by unfold VR at *; exact x
  | .tup _, _, x => by
    unfold VR at *
    obtain ⟨a, vs, e, t, r⟩ := x
    exact ⟨a, vs, e, k _ _ t, VRs.tk k r⟩
theorem VRs.tk {h h' : Heap} (k : TK h h') : ∀ {l : List AV} {vs : List Value}, VRs h l vs → VRs h' l vs
  | [], _, x => by unfold VRs at *; exact x
  | _ :: _, _, x => by
    unfold VRs at *
    obtain ⟨v, r, e, a, b⟩ := x
    exact ⟨v, r, e, VR.tk k a, VRs.tk k b⟩
end

theorem VRs.length {h : Heap} : ∀ {l : List AV} {vs : List Value}, VRs h l vs → vs.length = l.length
  | [], _, x => by unfold VRs at x; subst x; rfl
  | _ :: l, _, x => by
    unfold VRs at x
    obtain ⟨v, r, rfl, _, b⟩ := x
    simp [VRs.length b]
theorem VRs.get {h : Heap} : ∀ {l : List AV} {vs : List Value}, VRs h l vs → ∀ {i : Nat} {a : AV}, l[i]? = some a → ∃ v, vs[i]? = some v ∧ VR h a v
  | [], _, _, i, a, e => by simp at e
  | x :: l, _, y, i, a, e => by
    unfold VRs at y
    obtain ⟨v, r, rfl, y1, y2⟩ := y
    cases i with
    | zero => simp at e; subst e; exact ⟨v, rfl, y1⟩
    | succ i => simpa using VRs.get y2 (by simpa using e)
theorem VRs.append {h : Heap} : ∀ {l m : List AV} {vs us : List Value}, VRs h l vs → VRs h m us → VRs h (l ++ m) (vs ++ us)
  | [], _, _, _, x, y => by unfold VRs at x; subst x; exact y
  | _ :: l, _, _, _, x, y => by
    unfold VRs at x
    obtain ⟨v, r, rfl, a, b⟩ := x
    show VRs h (_ :: (l ++ _)) (v :: (r ++ _))
    unfold VRs
    exact ⟨v, _, rfl, a, VRs.append b y⟩
theorem VRs.one {h : Heap} {a : AV} {v : Value} (x : VR h a v) : VRs h [a] [v] := by
  unfold VRs VRs; exact ⟨v, [], rfl, x, rfl⟩

/-- an object that the call owns -/
inductive AO where
  | ns (ρ : List (PySem.Str × Option AV))
  | cell (v : Option AV)
  | arr (l : List AV)
  | lst (l : List AV)
  | dct (l : List (Int × AV))
  | itL (a : Addr) (i : Nat)
  | itR (x left : Int)
  | itB (b : List UInt8) (i : Nat)
  | rng (n : Int)

section
variable (prog : Program) (w : World)
def OR (h : Heap) (a : Addr) : AO → Prop
  | .ns ρ => ∃ m, h.Ns a m ∧ (ρ.map (·.1)).Nodup ∧ ∀ x av, (x, some av) ∈ ρ → ∃ v, m x = some v ∧ VR h av v
  | .cell o => ∃ v, h.IsCell a v ∧ ∀ av, o = some av → ∃ u, v = some u ∧ VR h av u
  | .arr l => ∃ vs, h.IsList a (List.toArray vs) ∧ VRs h l vs
  | .lst l => ∃ vs, h.PlainList a (List.toArray vs) ∧ VRs h l vs
  | .dct l => ∃ kvs, h.DictOf (intKind prog w) a kvs ∧ kvs.map (·.1) = l.map (·.1) ∧ VRs h (l.map (·.2)) (kvs.map (·.2))
  | .itL l i => h.IsListIter a l i
  | .itR x left => IsRangeIter h a x left 1
  | .itB b i => ∃ t, KBw.IsBytesIter h a b.toArray t i
  | .rng n => ∃ t u v, IsRange h a 0 n 1 t u v
end

section
variable {prog : Program} {w : World} {h h' : Heap} {a : Addr} {ao : AO}
theorem IsTup.exc {items : Array Value} (t : IsTup h a items) : ∃ o n, h.get? a = some o ∧ o.cls = .type "tuple" ∧ o.data = .seq items n := let ⟨o, e, c, n, d⟩ := t; ⟨o, n, e, c, d⟩

theorem OR.notTup (x : OR prog w h a ao) (items : Array Value) : ¬ IsTup h a items := by
  rintro ⟨o, e, c, n, d⟩
  cases ao with
  | ns ρ =>
    obtain ⟨m, ⟨o', es, ep, e', d', _⟩, _⟩ := x
    rw [e] at e'; cases e'; rw [d] at d'; cases d'
  | cell v =>
    obtain ⟨u, ⟨o', e', d'⟩, _⟩ := x
    rw [e] at e'; cases e'; rw [d] at d'; cases d'
  | arr l =>
    obtain ⟨vs, ⟨o', e', c', _⟩, _⟩ := x
    rw [e] at e'; cases e'; rw [c] at c'; exact absurd c' (by decide)
  | lst l =>
    obtain ⟨vs, ⟨n', e'⟩, _⟩ := x
    rw [e] at e'; cases e'; exact absurd (show Value.type "list" = Value.type "tuple" from c) (by decide)
  | dct l =>
    obtain ⟨kvs, ⟨o', es, ep, e', c', d', _⟩, _⟩ := x
    rw [e] at e'; cases e'; rw [d] at d'; cases d'
  | itL l i =>
    obtain ⟨o', e', c', d'⟩ := x
    rw [e] at e'; cases e'; rw [d] at d'; cases d'
  | itR y left =>
    have x : h.get? a = some { cls := .type "range_iterator", dict := Option.none, data := .fields #[rawInt y, rawInt left, rawInt 1], slots := #[] } := x
    rw [e] at x; cases x; cases d
  | itB b i =>
    obtain ⟨t, o', e', c', d'⟩ := x
    rw [e] at e'; cases e'; rw [d] at d'; cases d'
  | rng n =>
    obtain ⟨t, u, v, e'⟩ := x
    have e' : h.get? a = some { cls := .type "range", dict := Option.none, data := .fields #[.int 0 t, .int n u, .int 1 v], slots := #[] } := e'
    rw [e] at e'; cases e'; cases d

theorem OR.keep (k : TK h h') (e : ∀ o, h.get? a = some o → h'.get? a = some o) (x : OR prog w h a ao) : OR prog w h' a ao := by
  cases ao with
  | ns ρ =>
    obtain ⟨m, ⟨o, es, ep, ho, r⟩, nd, f⟩ := x
    exact ⟨m, ⟨o, es, ep, e _ ho, r⟩, nd, fun y av hy => let ⟨v, h1, h2⟩ := f y av hy; ⟨v, h1, h2.tk k⟩⟩
  | cell v =>
    obtain ⟨u, ⟨o, ho, d⟩, f⟩ := x
    exact ⟨u, ⟨o, e _ ho, d⟩, fun av hv => let ⟨z, h1, h2⟩ := f av hv; ⟨z, h1, h2.tk k⟩⟩
  | arr l =>
    obtain ⟨vs, ⟨o, ho, r⟩, f⟩ := x
    exact ⟨vs, ⟨o, e _ ho, r⟩, f.tk k⟩
  | lst l =>
    obtain ⟨vs, ⟨n, ho⟩, f⟩ := x
    exact ⟨vs, ⟨n, e _ ho⟩, f.tk k⟩
  | dct l =>
    obtain ⟨kvs, ⟨o, es, ep, ho, r⟩, hk, f⟩ := x
    exact ⟨kvs, ⟨o, es, ep, e _ ho, r⟩, hk, f.tk k⟩
  | itL l i =>
    obtain ⟨o, ho, r⟩ := x
    exact ⟨o, e _ ho, r⟩
  | itR y left => exact e _ x
  | itB b i =>
    obtain ⟨t, o, ho, r⟩ := x
    exact ⟨t, o, e _ ho, r⟩
  | rng n =>
    obtain ⟨t, u, v, e'⟩ := x
    exact ⟨t, u, v, e _ e'⟩

theorem OR.lt (x : OR prog w h a ao) : a < h.objs.size := by
  cases ao with
  | ns ρ => obtain ⟨m, hn, _⟩ := x; exact hn.lt
  | cell v => obtain ⟨u, hc, _⟩ := x; exact hc.lt
  | arr l => obtain ⟨vs, ⟨o, ho, _⟩, _⟩ := x; exact Heap.lt_size ho
  | lst l => obtain ⟨vs, ⟨n, ho⟩, _⟩ := x; exact Heap.lt_size ho
  | dct l => obtain ⟨kvs, ⟨o, _, _, ho, _⟩, _⟩ := x; exact Heap.lt_size ho
  | itL l i => obtain ⟨o, ho, _⟩ := x; exact Heap.lt_size ho
  | itR y left => exact Heap.lt_size x
  | itB b i => obtain ⟨t, o, ho, _⟩ := x; exact Heap.lt_size ho
  | rng n => obtain ⟨t, u, v, e'⟩ := x; exact Heap.lt_size e'
end

abbrev Led := List (Addr × AO)

inductive Upd (a : Addr) (x y : AO) : Led → Led → Prop
  | head {Γ : Led} : Upd a x y ((a, x) :: Γ) ((a, y) :: Γ)
  | tail {p : Addr × AO} {Γ Γ' : Led} : Upd a x y Γ Γ' → Upd a x y (p :: Γ) (p :: Γ')

theorem Upd.mem {a : Addr} {x y : AO} {Γ Γ' : Led} (u : Upd a x y Γ Γ') : (a, x) ∈ Γ := by
  induction u with
  | head => exact .head _
  | tail _ ih => exact .tail _ ih
theorem Upd.mem' {a : Addr} {x y : AO} {Γ Γ' : Led} (u : Upd a x y Γ Γ') : (a, y) ∈ Γ' := by
  induction u with
  | head => exact .head _
  | tail _ ih => exact .tail _ ih
theorem Upd.keys {a : Addr} {x y : AO} {Γ Γ' : Led} (u : Upd a x y Γ Γ') : Γ'.map (·.1) = Γ.map (·.1) := by
  induction u with
  | head => rfl
  | tail _ ih => simp [ih]
theorem Upd.cases {a : Addr} {x y : AO} {Γ Γ' : Led} (u : Upd a x y Γ Γ') (nd : (Γ.map (·.1)).Nodup) : ∀ p ∈ Γ', p = (a, y) ∨ (p ∈ Γ ∧ p.1 ≠ a) := by
  induction u with
  | @head Γ =>
    intro p hp
    rcases List.mem_cons.mp hp with rfl | hp
    · exact .inl rfl
    · refine .inr ⟨.tail _ hp, fun e => ?_⟩
      rw [List.map_cons, List.nodup_cons] at nd
      exact nd.1 (by rw [← e]; exact List.mem_map_of_mem (f := (·.1)) hp)
  | @tail q Γ Γ' u ih =>
    intro p hp
    rw [List.map_cons, List.nodup_cons] at nd
    rcases List.mem_cons.mp hp with rfl | hp
    · refine .inr ⟨.head _, fun e => nd.1 ?_⟩
      rw [e]; exact List.mem_map_of_mem (f := (·.1)) u.mem
    · rcases ih nd.2 p hp with h | h
      · exact .inl h
      · exact .inr ⟨.tail _ h.1, h.2⟩

section
variable (prog : Program) (w : World)
structure St (s₀ : Shared) (Γ : Led) (s : Shared) : Prop where
  same : ∃ h tk, s = { s₀ with heap := h, toks := tk }
  keep : ∀ b o, s₀.heap.get? b = some o → s.heap.get? b = some o
  own : ∀ p ∈ Γ, OR prog w s.heap p.1 p.2
  fresh : ∀ p ∈ Γ, s₀.heap.get? p.1 = none
  nd : (Γ.map (·.1)).Nodup
end

section
variable {prog : Program} {w : World} {s₀ s : Shared} {Γ Γ' : Led}
theorem St.tok (S : St prog w s₀ Γ s) (tk : Nat) : St prog w s₀ Γ { s with toks := tk } := by
  obtain ⟨⟨h, t, rfl⟩, k, o, f, nd⟩ := S
  exact ⟨⟨h, tk, rfl⟩, k, o, f, nd⟩

theorem St.sub (S : St prog w s₀ Γ s) (hs : ∀ p ∈ Γ', p ∈ Γ) (nd : (Γ'.map (·.1)).Nodup) : St prog w s₀ Γ' s :=
  ⟨S.same, S.keep, fun p hp => S.own p (hs p hp), fun p hp => S.fresh p (hs p hp), nd⟩
theorem St.sublist (S : St prog w s₀ Γ s) (hs : List.Sublist Γ' Γ) : St prog w s₀ Γ' s :=
  S.sub (fun _ hp => hs.subset hp) ((hs.map _).nodup S.nd)

theorem TK.push (h : Heap) (o : Obj) : TK h (h.push o) := fun _ _ t => t.push o

/-- something new, not kept in the ledger -/
theorem St.push0 (S : St prog w s₀ Γ s) (o : Obj) (tk : Nat) : St prog w s₀ Γ { s with heap := s.heap.push o, toks := tk } := by
  obtain ⟨⟨h, t, rfl⟩, k, ow, f, nd⟩ := S
  exact ⟨⟨_, _, rfl⟩, fun b o' e => Heap.get?_push_of_some _ (k b o' e), fun p hp => (ow p hp).keep (TK.push _ _) fun o' e => Heap.get?_push_of_some _ e, f, nd⟩

/-- an object of the ledger, or something that is not in it, turned or not -/
theorem St.ext {h' : Heap} {a : Addr} {x y : AO} (S : St prog w s₀ Γ s) (u : Upd a x y Γ Γ') (hs : Heap.ExtBut a s.heap h') (tk : Nat)
    (hy : TK s.heap h' → OR prog w h' a y) : TK s.heap h' ∧ St prog w s₀ Γ' { s with heap := h', toks := tk } := by
  have hx := S.own _ u.mem
  have k : TK s.heap h' := fun b items t => t.extBut hs fun e => hx.notTup items (e ▸ t)
  refine ⟨k, ?_⟩
  have hc := u.cases S.nd
  obtain ⟨⟨h, t, rfl⟩, kp, ow, f, nd⟩ := S
  refine ⟨⟨_, _, rfl⟩, fun b o e => hs b o (fun q => ?_) (kp b o e), fun p hp => ?_, fun p hp => ?_, u.keys ▸ nd⟩
  · have := f _ u.mem; rw [← q, e] at this; cases this
  · rcases hc p hp with rfl | ⟨hp, hne⟩
    · exact hy k
    · exact (ow p hp).keep k fun o e => hs _ o hne e
  · rcases hc p hp with rfl | ⟨hp, hne⟩
    · exact f (a, x) u.mem
    · exact f p hp


inductive Del (a : Addr) (x : AO) : Led → Led → Prop
  | head {Γ : Led} : Del a x ((a, x) :: Γ) Γ
  | tail {p : Addr × AO} {Γ Γ' : Led} : Del a x Γ Γ' → Del a x (p :: Γ) (p :: Γ')
theorem Del.mem {a : Addr} {x : AO} {Γ Γ' : Led} (u : Del a x Γ Γ') : (a, x) ∈ Γ := by
  induction u with
  | head => exact .head _
  | tail _ ih => exact .tail _ ih
theorem Del.sub {a : Addr} {x : AO} {Γ Γ' : Led} (u : Del a x Γ Γ') : List.Sublist Γ' Γ := by
  induction u with
  | head => exact List.sublist_cons_self ..
  | tail _ ih => exact ih.cons_cons _
theorem Del.ne {a : Addr} {x : AO} {Γ Γ' : Led} (u : Del a x Γ Γ') (nd : (Γ.map (·.1)).Nodup) : ∀ p ∈ Γ', p.1 ≠ a := by
  induction u with
  | @head Γ =>
    intro p hp e
    rw [List.map_cons, List.nodup_cons] at nd
    exact nd.1 (by rw [← e]; exact List.mem_map_of_mem (f := (·.1)) hp)
  | @tail q Γ Γ' u ih =>
    intro p hp
    rw [List.map_cons, List.nodup_cons] at nd
    rcases List.mem_cons.mp hp with rfl | hp
    · intro e
      refine nd.1 ?_
      rw [e]; exact List.mem_map_of_mem (f := (·.1)) u.mem
    · exact ih nd.2 p hp
/-- an object is forgotten while it is turned -/
theorem St.del {h' : Heap} {a : Addr} {x : AO} (S : St prog w s₀ Γ s) (u : Del a x Γ Γ') (hs : Heap.ExtBut a s.heap h') (tk : Nat) :
    TK s.heap h' ∧ St prog w s₀ Γ' { s with heap := h', toks := tk } := by
  have hx := S.own _ u.mem
  have k : TK s.heap h' := fun b items t => t.extBut hs fun e => hx.notTup items (e ▸ t)
  refine ⟨k, ?_⟩
  have hc := u.ne S.nd
  have sb := u.sub
  obtain ⟨⟨h, t, rfl⟩, kp, ow, f, nd⟩ := S
  refine ⟨⟨_, _, rfl⟩, fun b o e => hs b o (fun q => ?_) (kp b o e), fun p hp => ?_, fun p hp => f p (sb.subset hp), (sb.map _).nodup nd⟩
  · have := f _ u.mem; rw [← q, e] at this; cases this
  · exact (ow p (sb.subset hp)).keep k fun o e => hs _ o (hc p hp) e

/-- something new onto the ledger -/
theorem St.push {y : AO} (S : St prog w s₀ Γ s) (o : Obj) (tk : Nat)
    (hy : OR prog w (s.heap.push o) s.heap.objs.size y) : St prog w s₀ ((s.heap.objs.size, y) :: Γ) { s with heap := s.heap.push o, toks := tk } := by
  have S' := S.push0 o tk
  refine ⟨S'.same, S'.keep, fun p hp => ?_, fun p hp => ?_, ?_⟩
  · rcases List.mem_cons.mp hp with rfl | hp
    · exact hy
    · exact S'.own p hp
  · rcases List.mem_cons.mp hp with rfl | hp
    · cases q : s₀.heap.get? s.heap.objs.size with
      | none => rfl
      | some o' => exact absurd (Heap.lt_size (S.keep _ _ q)) (Nat.lt_irrefl _)
    · exact S'.fresh p hp
  · rw [List.map_cons, List.nodup_cons]
    refine ⟨fun hm => ?_, S.nd⟩
    obtain ⟨p, hp, e⟩ := List.mem_map.mp hm
    have := (S.own p hp).lt
    rw [e] at this
    exact Nat.lt_irrefl _ this
end
end

section
open PySem PySem.W PySem.Calls PyProof.Rows
set_option maxRecDepth 100000
set_option linter.unusedVariables false
/-- a flow, seen from outside -/
inductive AF where
  | next | brk | cont
  | ret (v : AV)
def FR (h : Heap) : AF → Flow → Prop
  | .next, f => f = .next
  | .brk, f => f = .brk
  | .cont, f => f = .cont
  | .ret a, f => ∃ v, f = .ret v ∧ VR h a v
def BR (_ : Heap) (a b : Bool) : Prop := b = a
def UR (_ : Heap) (_ _ : Unit) : Prop := True

section
variable (prog : Program) (w : World) (s₀ : Shared)
def Post {α β : Type} (rel : Heap → β → α → Prop) (Q : β → Led → Prop) (s : Shared) (a : α) (s' : Shared) : Prop :=
  TK s.heap s'.heap ∧ ∃ b Γ, rel s'.heap b a ∧ St prog w s₀ Γ s' ∧ Q b Γ
/-- what a tree does: from each state that the ledger tells -/
def Wp {α β : Type} (A : Around) (rel : Heap → β → α → Prop) (t : Sem α) (Γ : Led) (Q : β → Led → Prop) : Prop :=
  ∀ s, St prog w s₀ Γ s → wpAny (model prog w) A t (Post prog w s₀ rel Q s) (fun _ _ => False) s
def W1 {α β : Type} (A : Around) (rel : Heap → β → α → Prop) (f : Value → Sem α) (a : AV) (Γ : Led) (Q : β → Led → Prop) : Prop :=
  ∀ s v, St prog w s₀ Γ s → VR s.heap a v → wpAny (model prog w) A (f v) (Post prog w s₀ rel Q s) (fun _ _ => False) s
def W2 {α β : Type} (A : Around) (rel : Heap → β → α → Prop) (f : Value → Value → Sem α) (a b : AV) (Γ : Led) (Q : β → Led → Prop) : Prop :=
  ∀ s v u, St prog w s₀ Γ s → VR s.heap a v → VR s.heap b u → wpAny (model prog w) A (f v u) (Post prog w s₀ rel Q s) (fun _ _ => False) s
def W3 {α β : Type} (A : Around) (rel : Heap → β → α → Prop) (f : Value → Value → Value → Sem α) (a b c : AV) (Γ : Led) (Q : β → Led → Prop) : Prop :=
  ∀ s v u x, St prog w s₀ Γ s → VR s.heap a v → VR s.heap b u → VR s.heap c x → wpAny (model prog w) A (f v u x) (Post prog w s₀ rel Q s) (fun _ _ => False) s
def WL {α β : Type} (A : Around) (rel : Heap → β → α → Prop) (f : List Value → Sem α) (l : List AV) (Γ : Led) (Q : β → Led → Prop) : Prop :=
  ∀ s vs, St prog w s₀ Γ s → VRs s.heap l vs → wpAny (model prog w) A (f vs) (Post prog w s₀ rel Q s) (fun _ _ => False) s
end

section
variable {prog : Program} {w : World} {s₀ s s' s₁ : Shared} {A : Around} {Γ Γ' : Led} {α β γ δ : Type} {rel : Heap → β → α → Prop} {rel' : Heap → δ → γ → Prop}

theorem Post.le {Q : β → Led → Prop} {a : α} (k : TK s.heap s₁.heap) (h : Post prog w s₀ rel Q s₁ a s') : Post prog w s₀ rel Q s a s' :=
  ⟨k.trans h.1, h.2⟩
theorem Post.mono {Q Q' : β → Led → Prop} {a : α} (q : ∀ b Γ, Q b Γ → Q' b Γ) (h : Post prog w s₀ rel Q s a s') : Post prog w s₀ rel Q' s a s' :=
  let ⟨k, b, Γ, r, S, x⟩ := h; ⟨k, b, Γ, r, S, q b Γ x⟩
/-- the state stays but for its tokens -/
theorem Post.stay {Q : β → Led → Prop} {a : α} {b : β} (S : St prog w s₀ Γ s) (r : rel s.heap b a) (q : Q b Γ) : Post prog w s₀ rel Q s a s := ⟨TK.refl _, b, Γ, r, S, q⟩
theorem Post.tok {Q : β → Led → Prop} {a : α} {b : β} (S : St prog w s₀ Γ s) (r : rel s.heap b a) (q : Q b Γ) (tk : Nat) : Post prog w s₀ rel Q s a { s with toks := tk } :=
  ⟨TK.refl _, b, Γ, r, S.tok tk, q⟩

theorem Wp.mono {t : Sem α} {Q Q' : β → Led → Prop} (h : Wp prog w s₀ A rel t Γ Q) (q : ∀ b Γ, Q b Γ → Q' b Γ) : Wp prog w s₀ A rel t Γ Q' :=
  fun s S => wpAny_mono (h s S) (fun _ _ x => x.mono q) fun _ _ e => e
theorem WL.mono {f : List Value → Sem α} {l : List AV} {Q Q' : β → Led → Prop} (h : WL prog w s₀ A rel f l Γ Q) (q : ∀ b Γ, Q b Γ → Q' b Γ) : WL prog w s₀ A rel f l Γ Q' :=
  fun s vs S V => wpAny_mono (h s vs S V) (fun _ _ x => x.mono q) fun _ _ e => e
/-- forget a part of the ledger -/
theorem Wp.drop {t : Sem α} {Q : β → Led → Prop} (h : Wp prog w s₀ A rel t Γ' Q) (hs : List.Sublist Γ' Γ) : Wp prog w s₀ A rel t Γ Q :=
  fun s S => h s (S.sublist hs)
theorem Wp.perm {t : Sem α} {Q : β → Led → Prop} (h : Wp prog w s₀ A rel t Γ' Q) (hs : ∀ p ∈ Γ', p ∈ Γ) (nd : (Γ.map (·.1)).Nodup → (Γ'.map (·.1)).Nodup) : Wp prog w s₀ A rel t Γ Q :=
  fun s S => h s (S.sub hs (nd S.nd))

-- names
section names
variable {env : Env} {x : PySem.Str} {pos : Pos} {ρ ρ' : List (PySem.Str × Option AV)} {av : AV} {c : Addr} {Q : AV → Led → Prop}
theorem E_local (hk : env.scope.kind = .function) (hl : env.kindOf x = some .local) (hm : (env.locals, AO.ns ρ) ∈ Γ) (hx : (x, some av) ∈ ρ) (hd : (x == ("__debug__" : PySem.Str)) = false)
    (h : Q av Γ) : Wp prog w s₀ A VR (eval (.Name x pos) env) Γ Q := fun s S => by
  obtain ⟨m, hn, nd, f⟩ := S.own _ hm
  obtain ⟨v, hv, r⟩ := f x av hx
  exact wpAny_Name (wpAny_loadName_local hk hl hn hv (Post.stay S r h)) hd
theorem E_cell (hk : env.scope.kind = .function) (hl : env.kindOf x = some .cell) (hc : env.cells.lookup x = some c) (hm : (c, AO.cell (some av)) ∈ Γ) (hd : (x == ("__debug__" : PySem.Str)) = false)
    (h : Q av Γ) : Wp prog w s₀ A VR (eval (.Name x pos) env) Γ Q := fun s S => by
  obtain ⟨v, hv, f⟩ := S.own _ hm
  obtain ⟨u, rfl, r⟩ := f av rfl
  exact wpAny_Name (wpAny_loadName_cell hk hl hc hv (Post.stay S r h)) hd
theorem E_free (hk : env.scope.kind = .function) (hl : env.kindOf x = some .free) (hc : env.cells.lookup x = some c) (hm : (c, AO.cell (some av)) ∈ Γ) (hd : (x == ("__debug__" : PySem.Str)) = false)
    (hn : (x == ("__classdict__" : PySem.Str)) = false) (h : Q av Γ) : Wp prog w s₀ A VR (eval (.Name x pos) env) Γ Q := fun s S => by
  obtain ⟨v, hv, f⟩ := S.own _ hm
  obtain ⟨u, rfl, r⟩ := f av rfl
  exact wpAny_Name (wpAny_loadName_free hk hl hc hv (Post.stay S r h) hn) hd

inductive Put (x : PySem.Str) (av : AV) : List (PySem.Str × Option AV) → List (PySem.Str × Option AV) → Prop
  | head {o : Option AV} {ρ} : Put x av ((x, o) :: ρ) ((x, some av) :: ρ)
  | tail {p ρ ρ'} : Put x av ρ ρ' → Put x av (p :: ρ) (p :: ρ')
theorem Put.keys (p : Put x av ρ ρ') : ρ'.map (·.1) = ρ.map (·.1) := by
  induction p with
  | head => rfl
  | tail _ ih => simp [ih]
theorem Put.mem (p : Put x av ρ ρ') : x ∈ ρ.map (·.1) := by
  induction p with
  | head => simp
  | tail _ ih => exact List.mem_cons_of_mem _ ih
theorem Put.cases (p : Put x av ρ ρ') (nd : (ρ.map (·.1)).Nodup) : ∀ q ∈ ρ', q = (x, some av) ∨ (q ∈ ρ ∧ q.1 ≠ x) := by
  induction p with
  | @head o ρ =>
    intro q hq
    rcases List.mem_cons.mp hq with rfl | hq
    · exact .inl rfl
    · refine .inr ⟨.tail _ hq, fun e => ?_⟩
      rw [List.map_cons, List.nodup_cons] at nd
      exact nd.1 (by rw [← e]; exact List.mem_map_of_mem (f := (·.1)) hq)
  | @tail r ρ ρ' p ih =>
    intro q hq
    rw [List.map_cons, List.nodup_cons] at nd
    rcases List.mem_cons.mp hq with rfl | hq
    · refine .inr ⟨.head _, fun e => nd.1 ?_⟩
      rw [e]; exact p.mem
    · rcases ih nd.2 q hq with h | h
      · exact .inl h
      · exact .inr ⟨.tail _ h.1, h.2⟩

theorem OR.put {h h' : Heap} {a : Addr} {m m' : PySem.Str → Option Value} {v : Value} (k : TK h h') (hn : h'.Ns a m') (em : ∀ y, m' y = if y = x then some v else m y)
    (nd : (ρ.map (·.1)).Nodup) (f : ∀ y bv, (y, some bv) ∈ ρ → ∃ u, m y = some u ∧ VR h bv u) (p : Put x av ρ ρ') (r : VR h' av v) : OR prog w h' a (.ns ρ') := by
  refine ⟨m', hn, p.keys ▸ nd, fun y bv hy => ?_⟩
  rcases p.cases nd _ hy with e | ⟨hy, hne⟩
  · cases e
    exact ⟨v, by rw [em, if_pos rfl], r⟩
  · obtain ⟨u, h1, h2⟩ := f y bv hy
    exact ⟨u, by rw [em, if_neg hne]; exact h1, h2.tk k⟩

theorem S_local {Q : Unit → Led → Prop} (hk : env.scope.kind = .function) (hl : env.kindOf x = some .local) (u : Upd env.locals (.ns ρ) (.ns ρ') Γ Γ') (p : Put x av ρ ρ')
    (h : Q () Γ') : W1 prog w s₀ A UR (fun v => storeName env x v) av Γ Q := fun s v S r => by
  obtain ⟨m, hn, nd, f⟩ := S.own _ u.mem
  refine wpAny_storeName_local hl hn (fun h' hn' hs => ?_) (by rw [hk]; rfl)
  obtain ⟨k, S'⟩ := S.ext u hs.extBut (s.toks + 1) fun k => OR.put k hn' (fun _ => rfl) nd f p (r.tk k)
  exact ⟨k, (), Γ', trivial, S', h⟩
theorem S_cell {o : Option AV} {Q : Unit → Led → Prop} (hk : env.scope.kind = .function) (hl : env.kindOf x = some .cell) (hc : env.cells.lookup x = some c) (u : Upd c (.cell o) (.cell (some av)) Γ Γ')
    (h : Q () Γ') : W1 prog w s₀ A UR (fun v => storeName env x v) av Γ Q := fun s v S r => by
  obtain ⟨v₀, hv, f⟩ := S.own _ u.mem
  refine wpAny_storeName_cell hk hl hc hv fun h' hv' hs => ?_
  obtain ⟨k, S'⟩ := S.ext u hs.extBut s.toks fun k => ⟨_, hv', fun bv e => by cases e; exact ⟨v, rfl, r.tk k⟩⟩
  exact ⟨k, (), Γ', trivial, S', h⟩
end names

section globals
variable {K : Frag} {p : Program} {loose : List PySem.Str} {mg mb : PySem.Str → Option Value} {env : Env} {x : PySem.Str} {pos : Pos} {v : Value} {av : AV} {Q : AV → Led → Prop}
theorem E_global (X : K.In s₀.heap) (T : TopRead p loose mg mb s₀.heap) (e : nsIn K mainGlobals x = some (some v)) (hk : env.scope.kind = .function) (hx : env.kindOf x = some .globalImplicit)
    (hg : env.globals = mainGlobals) (hd : (x == ("__debug__" : PySem.Str)) = false) (r : VR s₀.heap av v) (h : Q av Γ) : Wp prog w s₀ A VR (eval (.Name x pos) env) Γ Q := fun s S => by
  refine Name_function_global hk hx (loadGlobal_global (hg ▸ T.g.keeps S.keep) (mg_of X T.g e) (Post.stay S (r.tk fun _ _ t => t.keeps S.keep) h)) hd
theorem E_builtin (X : K.In s₀.heap) (T : TopRead p loose mg mb s₀.heap) (e : nsIn K mainGlobals x = some none) (hv : bootBuiltins x = some v) (hn : x ≠ "__name__")
    (hk : env.scope.kind = .function) (hx : env.kindOf x = some .globalImplicit) (hg : env.globals = mainGlobals) (hb : env.builtins = builtinsNs)
    (hd : (x == ("__debug__" : PySem.Str)) = false) (h : Q (.raw v) Γ) : Wp prog w s₀ A VR (eval (.Name x pos) env) Γ Q := fun s S => by
  refine Name_function_global hk hx (loadGlobal_builtin (hg ▸ T.g.keeps S.keep) (mg_none_of X T.g e) (hb ▸ T.b.keeps S.keep) ((T.builtins x hn).trans hv) (Post.stay S (by unfold VR; rfl) h)) hd
end globals

-- written values
section consts
variable {env : Env} {k : Nat} {pos : Pos} {Q : AV → Led → Prop}
theorem E_int {i : Int} (h : Q (.int i) Γ) : Wp prog w s₀ A VR (eval (.Constant (.int i) k pos) env) Γ Q := fun s S =>
  wpAny_Constant_int (Post.tok S (by unfold VR; exact ⟨_, rfl⟩) h _)
theorem E_bytes {b : List UInt8} (h : Q (.byt b) Γ) : Wp prog w s₀ A VR (eval (.Constant (.bytes b) k pos) env) Γ Q := fun s S =>
  Constant_bytes (Post.tok S (by unfold VR; exact ⟨_, rfl⟩) h _)
theorem E_str {x : PySem.Str} (h : Q (.str x) Γ) : Wp prog w s₀ A VR (eval (.Constant (.str x) k pos) env) Γ Q := fun s S =>
  Constant_str (Post.tok S (by unfold VR; exact ⟨_, rfl⟩) h _)
theorem E_none (h : Q .none Γ) : Wp prog w s₀ A VR (eval (.Constant .none k pos) env) Γ Q := fun s S =>
  wpAny_pure (Post.stay S (by unfold VR; rfl) h)
theorem E_bool {b : Bool} (h : Q (.bool b) Γ) : Wp prog w s₀ A VR (eval (.Constant (.bool b) k pos) env) Γ Q := fun s S =>
  wpAny_pure (Post.stay S (by unfold VR; rfl) h)
end consts

-- nodes
section nodes
variable {env : Env} {pos : Pos}
theorem E_BinOp {l r : Expr} {op : Operator} {Q : AV → Led → Prop}
    (h : Wp prog w s₀ A VR (eval l env) Γ fun a Γ₁ => Wp prog w s₀ A VR (eval r env) Γ₁ fun b Γ₂ => W2 prog w s₀ A VR (binaryOp op) a b Γ₂ Q) :
    Wp prog w s₀ A VR (eval (.BinOp l op r pos) env) Γ Q := fun s S =>
  wpAny_BinOp (wpAny_mono (h s S) (fun a s₁ h₁ => by
    obtain ⟨k₁, av, Γ₁, r₁, S₁, q₁⟩ := h₁
    refine wpAny_mono (q₁ s₁ S₁) (fun b s₂ h₂ => ?_) fun _ _ e => e
    obtain ⟨k₂, bv, Γ₂, r₂, S₂, q₂⟩ := h₂
    exact wpAny_mono (q₂ s₂ a b S₂ (r₁.tk k₂) r₂) (fun _ _ z => z.le (k₁.trans k₂)) fun _ _ e => e) fun _ _ e => e)
theorem E_Compare {l r : Expr} {op : CmpOp} {Q : AV → Led → Prop}
    (h : Wp prog w s₀ A VR (eval l env) Γ fun a Γ₁ => Wp prog w s₀ A VR (eval r env) Γ₁ fun b Γ₂ => W2 prog w s₀ A VR (compareOp op) a b Γ₂ Q)
    (hm : behindInMarks op r = false := by with_unfolding_all rfl) :
    Wp prog w s₀ A VR (eval (.Compare l [op] [r] pos) env) Γ Q := fun s S =>
  wpAny_Compare1 (wpAny_mono (h s S) (fun a s₁ h₁ => by
    obtain ⟨k₁, av, Γ₁, r₁, S₁, q₁⟩ := h₁
    refine wpAny_mono (q₁ s₁ S₁) (fun b s₂ h₂ => ?_) fun _ _ e => e
    obtain ⟨k₂, bv, Γ₂, r₂, S₂, q₂⟩ := h₂
    exact wpAny_mono (q₂ s₂ a b S₂ (r₁.tk k₂) r₂) (fun _ _ z => z.le (k₁.trans k₂)) fun _ _ e => e) fun _ _ e => e) hm
/-- a comparison's answer is a bool -/
def BoolThen (Q : Bool → Led → Prop) (c : AV) (Γ : Led) : Prop := ∃ k, c = AV.bool k ∧ Q k Γ
theorem T_Compare {l r : Expr} {op : CmpOp} {whole : Sem Value} {Q : Bool → Led → Prop}
    (h : Wp prog w s₀ A VR (eval l env) Γ fun a Γ₁ => Wp prog w s₀ A VR (eval r env) Γ₁ fun b Γ₂ => W2 prog w s₀ A VR (compareOp op) a b Γ₂ (BoolThen Q))
    (hm : behindInMarks op r = false := by with_unfolding_all rfl) :
    Wp prog w s₀ A BR (isTrue (.Compare l [op] [r] pos) env whole) Γ Q := fun s S =>
  wpAny_isTrue_Compare1 (wpAny_mono (h s S) (fun a s₁ h₁ => by
    obtain ⟨k₁, av, Γ₁, r₁, S₁, q₁⟩ := h₁
    refine wpAny_mono (q₁ s₁ S₁) (fun b s₂ h₂ => ?_) fun _ _ e => e
    obtain ⟨k₂, bv, Γ₂, r₂, S₂, q₂⟩ := h₂
    refine wpAny_mono (q₂ s₂ a b S₂ (r₁.tk k₂) r₂) (fun c s₃ h₃ => ?_) fun _ _ e => e
    obtain ⟨k₃, cv, Γ₃, r₃, S₃, kk, rfl, q₃⟩ := h₃
    unfold VR at r₃
    subst r₃
    exact wpAny_truthy_bool ⟨(k₁.trans k₂).trans k₃, kk, Γ₃, rfl, S₃, q₃⟩) fun _ _ e => e) hm
theorem E_UnaryOp {op : UnaryOp} {x : Expr} {Q : AV → Led → Prop} (h : Wp prog w s₀ A VR (eval x env) Γ fun a Γ₁ => W1 prog w s₀ A VR (unaryOp op) a Γ₁ Q) :
    Wp prog w s₀ A VR (eval (.UnaryOp op x pos) env) Γ Q := fun s S =>
  wpAny_UnaryOp (wpAny_mono (h s S) (fun a s₁ h₁ => by
    obtain ⟨k₁, av, Γ₁, r₁, S₁, q₁⟩ := h₁
    exact wpAny_mono (q₁ s₁ a S₁ r₁) (fun _ _ z => z.le k₁) fun _ _ e => e) fun _ _ e => e)
theorem E_IfExp {t b o : Expr} {Q : AV → Led → Prop} (h : Wp prog w s₀ A BR (isTrue t env (eval t env)) Γ fun c Γ₁ => if c then Wp prog w s₀ A VR (eval b env) Γ₁ Q else Wp prog w s₀ A VR (eval o env) Γ₁ Q) :
    Wp prog w s₀ A VR (eval (.IfExp t b o pos) env) Γ Q := fun s S =>
  wpAny_IfExp (wpAny_mono (h s S) (fun c s₁ h₁ => by
    obtain ⟨k₁, cv, Γ₁, r₁, S₁, q₁⟩ := h₁
    have r₁ : c = cv := r₁
    subst r₁
    cases c with
    | true => exact wpAny_mono (q₁ s₁ S₁) (fun _ _ z => z.le k₁) fun _ _ e => e
    | false => exact wpAny_mono (q₁ s₁ S₁) (fun _ _ z => z.le k₁) fun _ _ e => e) fun _ _ e => e)
theorem E_Or2 {x y : Expr} {Q : AV → Led → Prop}
    (h : Wp prog w s₀ A VR (eval x env) Γ (BoolThen fun k Γ₁ => if k then Q (.bool k) Γ₁ else Wp prog w s₀ A VR (eval y env) Γ₁ Q)) :
    Wp prog w s₀ A VR (eval (.BoolOp .Or [x, y] pos) env) Γ Q := fun s S =>
  wpAny_Or2 (wpAny_mono (h s S) (fun c s₁ h₁ => by
    obtain ⟨k₁, cv, Γ₁, r₁, S₁, kk, rfl, q₁⟩ := h₁
    unfold VR at r₁
    subst r₁
    refine wpAny_truthy_bool ?_
    cases kk with
    | true => exact ⟨k₁, _, Γ₁, by unfold VR; rfl, S₁, q₁⟩
    | false => exact wpAny_mono (q₁ s₁ S₁) (fun _ _ z => z.le k₁) fun _ _ e => e) fun _ _ e => e)
theorem T_not {x : Expr} {whole : Sem Value} {Q : Bool → Led → Prop} (h : Wp prog w s₀ A BR (isTrue x env (eval x env)) Γ fun b Γ₁ => Q (!b) Γ₁) :
    Wp prog w s₀ A BR (isTrue (.UnaryOp .Not x pos) env whole) Γ Q := fun s S =>
  wpAny_isTrue_Not (wpAny_mono (h s S) (fun c s₁ h₁ => by
    obtain ⟨k₁, cv, Γ₁, r₁, S₁, q₁⟩ := h₁
    have r₁ : c = cv := r₁
    subst r₁
    exact ⟨k₁, _, Γ₁, rfl, S₁, q₁⟩) fun _ _ e => e)
theorem T_or {x : Expr} {rest : List Expr} {whole : Sem Value} {Q : Bool → Led → Prop}
    (h : Wp prog w s₀ A BR (isTrue x env (eval x env)) Γ fun b Γ₁ => if b then Q true Γ₁ else Wp prog w s₀ A BR (isTrue (.BoolOp .Or rest pos) env whole) Γ₁ Q) :
    Wp prog w s₀ A BR (isTrue (.BoolOp .Or (x :: rest) pos) env whole) Γ Q := fun s S =>
  isTrue_or (wpAny_mono (h s S) (fun c s₁ h₁ => by
    obtain ⟨k₁, cv, Γ₁, r₁, S₁, q₁⟩ := h₁
    have r₁ : c = cv := r₁
    subst r₁
    cases c with
    | true => exact ⟨k₁, _, Γ₁, rfl, S₁, q₁⟩
    | false => exact wpAny_mono (q₁ s₁ S₁) (fun _ _ z => z.le k₁) fun _ _ e => e) fun _ _ e => e)
theorem T_or_nil {whole : Sem Value} {Q : Bool → Led → Prop} (h : Q false Γ) : Wp prog w s₀ A BR (isTrue (.BoolOp .Or [] pos) env whole) Γ Q := fun s S =>
  isTrue_or_nil (Post.stay S rfl h)
theorem T_and {x : Expr} {rest : List Expr} {whole : Sem Value} {Q : Bool → Led → Prop}
    (h : Wp prog w s₀ A BR (isTrue x env (eval x env)) Γ fun b Γ₁ => if b then Wp prog w s₀ A BR (isTrue (.BoolOp .And rest pos) env whole) Γ₁ Q else Q false Γ₁) :
    Wp prog w s₀ A BR (isTrue (.BoolOp .And (x :: rest) pos) env whole) Γ Q := fun s S =>
  isTrue_and (wpAny_mono (h s S) (fun c s₁ h₁ => by
    obtain ⟨k₁, cv, Γ₁, r₁, S₁, q₁⟩ := h₁
    have r₁ : c = cv := r₁
    subst r₁
    cases c with
    | false => exact ⟨k₁, _, Γ₁, rfl, S₁, q₁⟩
    | true => exact wpAny_mono (q₁ s₁ S₁) (fun _ _ z => z.le k₁) fun _ _ e => e) fun _ _ e => e)
theorem T_and_nil {whole : Sem Value} {Q : Bool → Led → Prop} (h : Q true Γ) : Wp prog w s₀ A BR (isTrue (.BoolOp .And [] pos) env whole) Γ Q := fun s S =>
  isTrue_and_nil (Post.stay S rfl h)
/-- a test that is a plain expression with a bool -/
theorem T_plain {e : Expr} {Q : Bool → Led → Prop} (h : Wp prog w s₀ A VR (eval e env) Γ (BoolThen Q))
    (he : isTrue e env (eval e env) = (do let v ← eval e env; standAt e.pos; holding [v] (truthy v)) := by rfl) : Wp prog w s₀ A BR (isTrue e env (eval e env)) Γ Q := fun s S =>
  isTrue_plain (wpAny_mono (h s S) (fun c s₁ h₁ => by
    obtain ⟨k₁, cv, Γ₁, r₁, S₁, kk, rfl, q₁⟩ := h₁
    unfold VR at r₁
    subst r₁
    exact wpAny_truthy_bool ⟨k₁, kk, Γ₁, rfl, S₁, q₁⟩) fun _ _ e => e) he
end nodes

-- statements
section stmts
variable {env : Env} {pos : Pos}
theorem X_nil {Q : AF → Led → Prop} (h : Q .next Γ) : Wp prog w s₀ A FR (execs [] env) Γ Q := fun s S =>
  wpAny_execs_nil (Post.stay (b := AF.next) S (rfl : Flow.next = Flow.next) h)
theorem X_cons {st : Stmt} {rest : List Stmt} {Q : AF → Led → Prop}
    (h : Wp prog w s₀ A FR (exec st env) Γ fun f Γ₁ => match f with | .next => Wp prog w s₀ A FR (execs rest env) Γ₁ Q | f => Q f Γ₁) :
    Wp prog w s₀ A FR (execs (st :: rest) env) Γ Q := fun s S =>
  wpAny_execs_cons (wpAny_mono (h s S) (fun f s₁ h₁ => by
    obtain ⟨k₁, fv, Γ₁, r₁, S₁, q₁⟩ := h₁
    cases fv with
    | next =>
      have r₁ : f = .next := r₁
      subst r₁
      exact wpAny_mono (q₁ s₁ S₁) (fun _ _ z => z.le k₁) fun _ _ e => e
    | brk =>
      have r₁ : f = .brk := r₁
      subst r₁
      exact ⟨k₁, .brk, Γ₁, rfl, S₁, q₁⟩
    | cont =>
      have r₁ : f = .cont := r₁
      subst r₁
      exact ⟨k₁, .cont, Γ₁, rfl, S₁, q₁⟩
    | ret a =>
      obtain ⟨v, rfl, r₁⟩ := r₁
      exact ⟨k₁, .ret a, Γ₁, ⟨v, rfl, r₁⟩, S₁, q₁⟩) fun _ _ e => e)
theorem X_assign {x : PySem.Str} {p' : Pos} {value : Expr} {Q : AF → Led → Prop}
    (h : Wp prog w s₀ A VR (eval value env) Γ fun a Γ₁ => W1 prog w s₀ A UR (fun v => storeName env x v) a Γ₁ fun _ Γ₂ => Q .next Γ₂)
    (hs : swapsWith value (some (.Name x p')) pos.line env = pure false := by rfl) : Wp prog w s₀ A FR (exec (.Assign [.Name x p'] value pos) env) Γ Q := fun s S =>
  wpAny_Assign_Name (wpAny_mono (h s S) (fun v s₁ h₁ => by
    obtain ⟨k₁, av, Γ₁, r₁, S₁, q₁⟩ := h₁
    refine wpAny_mono (q₁ s₁ v S₁ r₁) (fun _ s₂ h₂ => ?_) fun _ _ e => e
    obtain ⟨k₂, _, Γ₂, _, S₂, q₂⟩ := h₂
    exact ⟨k₁.trans k₂, .next, Γ₂, rfl, S₂, q₂⟩) fun _ _ e => e) hs
/-- an assignment to one target, whatever it is -/
theorem X_assignT {t : Expr} {value : Expr} {Q : AF → Led → Prop}
    (h : Wp prog w s₀ A VR (eval value env) Γ fun a Γ₁ => W1 prog w s₀ A UR (fun v => assign t env v) a Γ₁ fun _ Γ₂ => Q .next Γ₂)
    (hs : swapsWithSole [t] value pos.line env = pure false := by rfl) (hw : swappedStores [t] value env = pure none := by rfl) (ha : (assignEach [t] env).map (·.2) = [assign t env] := by rfl) :
    Wp prog w s₀ A FR (exec (.Assign [t] value pos) env) Γ Q := fun s S => by
  rw [arm_exec_Assign, hs, hw, ha]
  refine wpAny_bind (wpAny_standAt (wpAny_bind (wpAny_pure ?_)))
  simp only [Bool.false_eq_true, if_false]
  refine wpAny_bind (wpAny_mono (h s S) (fun v s₁ h₁ => ?_) fun _ _ e => e)
  obtain ⟨k₁, av, Γ₁, r₁, S₁, q₁⟩ := h₁
  refine wpAny_bind (wpAny_pure ?_)
  show wpAny _ _ (assign t env v >>= fun _ => pure Flow.next) _ _ s₁
  refine wpAny_bind (wpAny_mono (q₁ s₁ v S₁ r₁) (fun _ s₂ h₂ => ?_) fun _ _ e => e)
  obtain ⟨k₂, _, Γ₂, _, S₂, q₂⟩ := h₂
  exact wpAny_pure ⟨k₁.trans k₂, .next, Γ₂, rfl, S₂, q₂⟩
theorem X_expr {e : Expr} {Q : AF → Led → Prop} (h : Wp prog w s₀ A VR (eval e env) Γ fun a Γ₁ => a = .none ∧ Q .next Γ₁)
    (hi : interactive env = false := by rfl) (hs : swapsWith e none pos.line env = pure false := by rfl) : Wp prog w s₀ A FR (exec (.Expr e pos) env) Γ Q := fun s S =>
  wpAny_Expr (wpAny_mono (h s S) (fun v s₁ h₁ => by
    obtain ⟨k₁, av, Γ₁, r₁, S₁, rfl, q₁⟩ := h₁
    unfold VR at r₁
    subst r₁
    exact ⟨k₁, .next, Γ₁, rfl, S₁, q₁⟩) fun _ _ e => e) hi hs
theorem X_if {t : Expr} {b o : List Stmt} {Q : AF → Led → Prop}
    (h : Wp prog w s₀ A BR (isTrue t env (eval t env)) Γ fun c Γ₁ => if c then Wp prog w s₀ A FR (execs b env) Γ₁ Q else Wp prog w s₀ A FR (execs o env) Γ₁ Q) :
    Wp prog w s₀ A FR (exec (.If t b o pos) env) Γ Q := fun s S =>
  wpAny_If (wpAny_mono (h s S) (fun c s₁ h₁ => by
    obtain ⟨k₁, cv, Γ₁, r₁, S₁, q₁⟩ := h₁
    have r₁ : c = cv := r₁
    subst r₁
    cases c with
    | true => exact wpAny_mono (q₁ s₁ S₁) (fun _ _ z => z.le k₁) fun _ _ e => e
    | false => exact wpAny_mono (q₁ s₁ S₁) (fun _ _ z => z.le k₁) fun _ _ e => e) fun _ _ e => e)
theorem X_return {e : Expr} {Q : AF → Led → Prop} (h : Wp prog w s₀ A VR (eval e env) Γ fun a Γ₁ => Q (.ret a) Γ₁) : Wp prog w s₀ A FR (exec (.Return (some e) pos) env) Γ Q := fun s S =>
  wpAny_Return_some (wpAny_mono (h s S) (fun v s₁ h₁ => by
    obtain ⟨k₁, av, Γ₁, r₁, S₁, q₁⟩ := h₁
    exact ⟨k₁, .ret av, Γ₁, ⟨v, rfl, r₁⟩, S₁, q₁⟩) fun _ _ e => e)
theorem A_name {x : PySem.Str} {a : AV} {Q : Unit → Led → Prop} (h : W1 prog w s₀ A UR (fun v => storeName env x v) a Γ Q) : W1 prog w s₀ A UR (fun v => assign (.Name x pos) env v) a Γ Q :=
  fun s v S r => wpAny_assign_Name (h s v S r)
end stmts
end
end

section
open PySem PySem.W PySem.Calls PyProof.Rows
set_option maxRecDepth 100000
set_option linter.unusedVariables false
theorem VR_int {h : Heap} {i : Int} {v : Value} : VR h (.int i) v ↔ ∃ t, v = .int i t := by unfold VR; rfl
theorem VR_str {h : Heap} {x : PySem.Str} {v : Value} : VR h (.str x) v ↔ ∃ t, v = .str x t := by unfold VR; rfl
theorem VR_byt {h : Heap} {b : List UInt8} {v : Value} : VR h (.byt b) v ↔ ∃ t, v = .bytes b.toArray t := by unfold VR; rfl
theorem VR_raw {h : Heap} {u v : Value} : VR h (.raw u) v ↔ v = u := by unfold VR; rfl
theorem VR_tup {h : Heap} {l : List AV} {v : Value} : VR h (.tup l) v ↔ ∃ a vs, v = .ref a ∧ IsTup h a (List.toArray vs) ∧ VRs h l vs := by rw [VR]
theorem VRs_nil {h : Heap} {vs : List Value} : VRs h [] vs ↔ vs = [] := by unfold VRs; rfl
theorem VRs_cons {h : Heap} {x : AV} {l : List AV} {vs : List Value} : VRs h (x :: l) vs ↔ ∃ v r, vs = v :: r ∧ VR h x v ∧ VRs h l r := by rw [VRs]

section
variable {prog : Program} {w : World} {s₀ s : Shared} {A : Around} {Γ Γ' : Led}

/-- all that was stays -/
theorem St.keepAll {h' : Heap} (S : St prog w s₀ Γ s) (hk : ∀ b o, s.heap.get? b = some o → h'.get? b = some o) (tk : Nat) :
    TK s.heap h' ∧ St prog w s₀ Γ { s with heap := h', toks := tk } := by
  have k : TK s.heap h' := fun b items t => t.keeps hk
  refine ⟨k, ?_⟩
  obtain ⟨⟨h, t, rfl⟩, kp, ow, f, nd⟩ := S
  exact ⟨⟨_, _, rfl⟩, fun b o e => hk b o (kp b o e), fun p hp => (ow p hp).keep k fun o e => hk _ o e, f, nd⟩
theorem Post.keepAll {α β : Type} {rel : Heap → β → α → Prop} {Q : β → Led → Prop} {a : α} {b : β} {h' : Heap} {tk : Nat} (S : St prog w s₀ Γ s) (hk : ∀ b o, s.heap.get? b = some o → h'.get? b = some o)
    (r : rel h' b a) (q : Q b Γ) : Post prog w s₀ rel Q s a { s with heap := h', toks := tk } :=
  let ⟨k, S'⟩ := S.keepAll hk tk; ⟨k, b, Γ, r, S', q⟩

section intops
variable {a b : Int} {Q : AV → Led → Prop}
theorem O_add (h : Q (.int (a + b)) Γ) : W2 prog w s₀ A VR (binaryOp .Add) (.int a) (.int b) Γ Q := fun s v u S r q => by
  obtain ⟨t, rfl⟩ := VR_int.mp r; obtain ⟨t', rfl⟩ := VR_int.mp q
  exact P.add_int (Post.tok S (VR_int.mpr ⟨_, rfl⟩) h _)
theorem O_sub (h : Q (.int (a - b)) Γ) : W2 prog w s₀ A VR (binaryOp .Sub) (.int a) (.int b) Γ Q := fun s v u S r q => by
  obtain ⟨t, rfl⟩ := VR_int.mp r; obtain ⟨t', rfl⟩ := VR_int.mp q
  exact P.sub_int (Post.tok S (VR_int.mpr ⟨_, rfl⟩) h _)
theorem O_mul (hm : IntMulOk a b) (h : Q (.int (a * b)) Γ) : W2 prog w s₀ A VR (binaryOp .Mult) (.int a) (.int b) Γ Q := fun s v u S r q => by
  obtain ⟨t, rfl⟩ := VR_int.mp r; obtain ⟨t', rfl⟩ := VR_int.mp q
  exact P.mul_int (Post.tok S (VR_int.mpr ⟨_, rfl⟩) h _) hm
theorem O_mod (hb : b ≠ 0) (h : Q (.int (a.fmod b)) Γ) : W2 prog w s₀ A VR (binaryOp .Mod) (.int a) (.int b) Γ Q := fun s v u S r q => by
  obtain ⟨t, rfl⟩ := VR_int.mp r; obtain ⟨t', rfl⟩ := VR_int.mp q
  exact PyProof.Rows.mod_int' hb (Post.tok S (VR_int.mpr ⟨_, rfl⟩) h _)
theorem O_pow (hn : 0 ≤ b) (hsz : (Builtin.Int.intBits a : Int) * b ≤ 2 ^ 27) (h : Q (.int (a ^ b.toNat)) Γ) : W2 prog w s₀ A VR (binaryOp .Pow) (.int a) (.int b) Γ Q := fun s v u S r q => by
  obtain ⟨t, rfl⟩ := VR_int.mp r; obtain ⟨t', rfl⟩ := VR_int.mp q
  exact PyProof.Rows.pow_int hn hsz (Post.tok S (VR_int.mpr ⟨_, rfl⟩) h _)
theorem O_neg (h : Q (.int (-a)) Γ) : W1 prog w s₀ A VR (unaryOp .USub) (.int a) Γ Q := fun s v S r => by
  obtain ⟨t, rfl⟩ := VR_int.mp r
  exact P.neg_int (Post.tok S (VR_int.mpr ⟨_, rfl⟩) h _)
theorem C_lt (h : Q (.bool (decide (a < b))) Γ) : W2 prog w s₀ A VR (compareOp .Lt) (.int a) (.int b) Γ Q := fun s v u S r q => by
  obtain ⟨t, rfl⟩ := VR_int.mp r; obtain ⟨t', rfl⟩ := VR_int.mp q
  exact P.lt_int (Post.stay S (VR_raw.mpr rfl) h)
theorem C_le (h : Q (.bool (decide (a ≤ b))) Γ) : W2 prog w s₀ A VR (compareOp .LtE) (.int a) (.int b) Γ Q := fun s v u S r q => by
  obtain ⟨t, rfl⟩ := VR_int.mp r; obtain ⟨t', rfl⟩ := VR_int.mp q
  exact P.le_int (Post.stay S (VR_raw.mpr rfl) h)
theorem C_gt (h : Q (.bool (decide (a > b))) Γ) : W2 prog w s₀ A VR (compareOp .Gt) (.int a) (.int b) Γ Q := fun s v u S r q => by
  obtain ⟨t, rfl⟩ := VR_int.mp r; obtain ⟨t', rfl⟩ := VR_int.mp q
  exact P.gt_int (Post.stay S (VR_raw.mpr rfl) h)
theorem C_ge (h : Q (.bool (decide (a ≥ b))) Γ) : W2 prog w s₀ A VR (compareOp .GtE) (.int a) (.int b) Γ Q := fun s v u S r q => by
  obtain ⟨t, rfl⟩ := VR_int.mp r; obtain ⟨t', rfl⟩ := VR_int.mp q
  exact P.ge_int (Post.stay S (VR_raw.mpr rfl) h)
theorem C_eq (h : Q (.bool (a == b)) Γ) : W2 prog w s₀ A VR (compareOp .Eq) (.int a) (.int b) Γ Q := fun s v u S r q => by
  obtain ⟨t, rfl⟩ := VR_int.mp r; obtain ⟨t', rfl⟩ := VR_int.mp q
  exact P.eq_int (Post.stay S (VR_raw.mpr rfl) h)
theorem C_ne (h : Q (.bool (a != b)) Γ) : W2 prog w s₀ A VR (compareOp .NotEq) (.int a) (.int b) Γ Q := fun s v u S r q => by
  obtain ⟨t, rfl⟩ := VR_int.mp r; obtain ⟨t', rfl⟩ := VR_int.mp q
  exact P.ne_int (Post.stay S (VR_raw.mpr rfl) h)
end intops

section
variable {Q : AV → Led → Prop}
theorem C_isN (h : Q (.bool true) Γ) : W2 prog w s₀ A VR (compareOp .Is) .none .none Γ Q := fun s v u S r q => by
  cases VR_raw.mp r; cases VR_raw.mp q
  exact PyProof.Rows.is_none_none (Post.stay S (VR_raw.mpr rfl) h)
theorem C_isT {l : List AV} (h : Q (.bool false) Γ) : W2 prog w s₀ A VR (compareOp .Is) (.tup l) .none Γ Q := fun s v u S r q => by
  obtain ⟨a, vs, rfl, _⟩ := VR_tup.mp r; cases VR_raw.mp q
  exact PyProof.Rows.is_none_ne (by intro x; cases x) (Post.stay S (VR_raw.mpr rfl) h)
theorem O_addB {b c : List UInt8} (hz : b.length + c.length ≤ 16777216) (h : Q (.byt (b ++ c)) Γ) : W2 prog w s₀ A VR (binaryOp .Add) (.byt b) (.byt c) Γ Q := fun s v u S r q => by
  obtain ⟨t, rfl⟩ := VR_byt.mp r; obtain ⟨t', rfl⟩ := VR_byt.mp q
  exact KBy.add_bytes (by simpa using hz) fun t' k => Post.tok S (VR_byt.mpr ⟨t', by simp⟩) h _
theorem O_addS {x y : PySem.Str} (hz : x.length + y.length ≤ sizeLine) (h : Q (.str (x ++ y)) Γ) : W2 prog w s₀ A VR (binaryOp .Add) (.str x) (.str y) Γ Q := fun s v u S r q => by
  obtain ⟨t, rfl⟩ := VR_str.mp r; obtain ⟨t', rfl⟩ := VR_str.mp q
  exact PyProof.Rows.add_str (fun t' k => Post.tok S (VR_str.mpr ⟨t', rfl⟩) h _) hz
theorem O_mulS {x : PySem.Str} {n : Int} (hok : MulOk x n) (h : Q (.str (Txt.mul x n)) Γ) : W2 prog w s₀ A VR (binaryOp .Mult) (.str x) (.int n) Γ Q := fun s v u S r q => by
  obtain ⟨t, rfl⟩ := VR_str.mp r; obtain ⟨t', rfl⟩ := VR_int.mp q
  exact SB.mul hok fun t' k => Post.tok S (VR_str.mpr ⟨t', rfl⟩) h _
end

-- arguments, calls
section calls
variable {env : Env} {pos : Pos}
theorem L_nil {Q : List AV → Led → Prop} (h : Q [] Γ) : Wp prog w s₀ A VRs (spliced (backTo pos (starEach [] env))) Γ Q := fun s S =>
  wpAny_items_nil (Post.stay S (VRs_nil.mpr rfl) h)
theorem L_cons {e : Expr} {rest : List Expr} {Q : List AV → Led → Prop}
    (h : Wp prog w s₀ A VR (eval e env) Γ fun a Γ₁ => Wp prog w s₀ A VRs (spliced (backTo pos (starEach rest env))) Γ₁ fun l Γ₂ => Q (a :: l) Γ₂)
    (he : starEach (e :: rest) env = (false, eval e env) :: starEach rest env := by rfl) : Wp prog w s₀ A VRs (spliced (backTo pos (starEach (e :: rest) env))) Γ Q := fun s S =>
  wpAny_items_cons (wpAny_mono (h s S) (fun v s₁ h₁ => by
    obtain ⟨k₁, av, Γ₁, r₁, S₁, q₁⟩ := h₁
    refine wpAny_mono (q₁ s₁ S₁) (fun vs s₂ h₂ => ?_) fun _ _ e => e
    obtain ⟨k₂, l, Γ₂, r₂, S₂, q₂⟩ := h₂
    exact ⟨k₁.trans k₂, av :: l, Γ₂, VRs_cons.mpr ⟨v, vs, rfl, r₁.tk k₂, r₂⟩, S₂, q₂⟩) fun _ _ e => e) he

/-- a call of a def of the text, by its name -/
theorem E_CallK {K : Frag} {func e : Expr} {rest : List Expr} {fa : Addr} {Q : AV → Led → Prop} (X : K.In s₀.heap) (hk : keepIn K (.ref fa) = true)
    (h : Wp prog w s₀ A VR (eval func env) Γ fun f Γ₁ => f = .ref fa ∧ Wp prog w s₀ A VRs (spliced (backTo pos (starEach (e :: rest) env))) Γ₁ fun l Γ₂ => WL prog w s₀ A VR (fun vs => call (.ref fa) vs) l Γ₂ Q)
    (hc : eval (.Call func (e :: rest) [] pos) env = (do callWith pos (← eval func env) [] (backTo pos (starEach (e :: rest) env)) []) := by rfl)
    (he : starEach (e :: rest) env = (false, eval e env) :: starEach rest env := by rfl) (hplain : (backTo pos (starEach rest env)).any (·.1) = false := by rfl) :
    Wp prog w s₀ A VR (eval (.Call func (e :: rest) [] pos) env) Γ Q := fun s S => by
  rw [hc]
  refine wpAny_bind (wpAny_mono (h s S) (fun f s₁ h₁ => ?_) fun _ _ e => e)
  obtain ⟨k₁, av, Γ₁, r₁, S₁, rfl, q₁⟩ := h₁
  cases VR_raw.mp r₁
  refine callWith_K X hk (wpAny_mono (q₁ s₁ S₁) (fun vs s₂ h₂ => ?_) fun _ _ e => e) he hplain
  obtain ⟨k₂, l, Γ₂, r₂, S₂, q₂⟩ := h₂
  exact ⟨X.keeps S₂.keep, wpAny_mono (q₂ s₂ vs S₂ r₂) (fun _ _ z => z.le (k₁.trans k₂)) fun _ _ e => e⟩
/-- a call of a built-in function or type, by its name -/
theorem E_CallB {func e : Expr} {rest : List Expr} {fv : Value} {Q : AV → Led → Prop} (hfv : keeperOf fv = pure .machine)
    (h : Wp prog w s₀ A VR (eval func env) Γ fun f Γ₁ => f = .raw fv ∧ Wp prog w s₀ A VRs (spliced (backTo pos (starEach (e :: rest) env))) Γ₁ fun l Γ₂ => WL prog w s₀ A VR (fun vs => call fv vs) l Γ₂ Q)
    (hc : eval (.Call func (e :: rest) [] pos) env = (do callWith pos (← eval func env) [] (backTo pos (starEach (e :: rest) env)) []) := by rfl)
    (he : starEach (e :: rest) env = (false, eval e env) :: starEach rest env := by rfl) (hplain : (backTo pos (starEach rest env)).any (·.1) = false := by rfl) :
    Wp prog w s₀ A VR (eval (.Call func (e :: rest) [] pos) env) Γ Q := fun s S => by
  rw [hc]
  refine wpAny_bind (wpAny_mono (h s S) (fun f s₁ h₁ => ?_) fun _ _ e => e)
  obtain ⟨k₁, av, Γ₁, r₁, S₁, rfl, q₁⟩ := h₁
  cases VR_raw.mp r₁
  rw [he]
  refine callWith_of (P := fun _ => True) (by show ((false || (backTo pos (starEach rest env)).any (·.1)) || false) = false; rw [hplain]; rfl) (fun h _ => ⟨.machine, .inr (.inl rfl), Looks.of_pure hfv⟩) ?_
  have q₁' := q₁ s₁ S₁
  rw [he] at q₁'
  refine evalArgs_plain (wpAny_mono q₁' (fun vs s₂ h₂ => ?_) fun _ _ e => e)
  obtain ⟨k₂, l, Γ₂, r₂, S₂, q₂⟩ := h₂
  exact ⟨trivial, wpAny_mono (q₂ s₂ vs S₂ r₂) (fun _ _ z => z.le (k₁.trans k₂)) fun _ _ e => e⟩
/-- a method of a built-in type -/
def GetsM (prog : Program) (w : World) (s₀ : Shared) (A : Around) (name : PySem.Str) (id : String) (a : AV) (Γ : Led) : Prop :=
  ∀ s v, St prog w s₀ Γ s → VR s.heap a v → ∀ (pl : Sem Bool) (Q : Value × List Value → Shared → Prop) (E : Value → Shared → Prop), Q (.builtin id, [v]) s → wpAny (model prog w) A (getMethod v name pl) Q E s
theorem E_Meth {o e : Expr} {name : PySem.Str} {apos : Pos} {rest : List Expr} {id : String} {pl : Sem Bool} {Q : AV → Led → Prop}
    (h : Wp prog w s₀ A VR (eval o env) Γ fun ov Γ₁ => GetsM prog w s₀ A name id ov Γ₁ ∧
      Wp prog w s₀ A VRs (spliced (backTo pos (starEach (e :: rest) env))) Γ₁ fun l Γ₂ => WL prog w s₀ A VR (fun vs => call (.builtin id) vs) (ov :: l) Γ₂ Q)
    (hc : eval (.Call (.Attribute o name apos) (e :: rest) [] pos) env = (do
      let ov ← eval o env
      standAt apos.atName
      let (f, first) ← holding [ov] (getMethod ov name pl)
      callWith pos f first (backTo pos (starEach (e :: rest) env)) []) := by rfl)
    (he : starEach (e :: rest) env = (false, eval e env) :: starEach rest env := by rfl) (hplain : (backTo pos (starEach rest env)).any (·.1) = false := by rfl) :
    Wp prog w s₀ A VR (eval (.Call (.Attribute o name apos) (e :: rest) [] pos) env) Γ Q := fun s S => by
  rw [hc]
  refine wpAny_bind (wpAny_mono (h s S) (fun ov s₁ h₁ => ?_) fun _ _ e => e)
  obtain ⟨k₁, av, Γ₁, r₁, S₁, g, q₁⟩ := h₁
  refine wpAny_bind (wpAny_standAt (wpAny_bind (wpAny_holding (g s₁ ov S₁ r₁ pl _ _ ?_))))
  show wpAny _ _ (callWith pos (.builtin id) [ov] (backTo pos (starEach (e :: rest) env)) []) _ _ s₁
  rw [he]
  refine callWith_of (P := fun _ => True) (by show ((false || (backTo pos (starEach rest env)).any (·.1)) || false) = false; rw [hplain]; rfl) (fun h _ => ⟨.machine, .inr (.inl rfl), Looks.of_pure rfl⟩) ?_
  have q₁' := q₁ s₁ S₁
  rw [he] at q₁'
  refine evalArgs_plain (wpAny_mono q₁' (fun vs s₂ h₂ => ?_) fun _ _ e => e)
  obtain ⟨k₂, l, Γ₂, r₂, S₂, q₂⟩ := h₂
  exact ⟨trivial, wpAny_mono (q₂ s₂ (ov :: vs) S₂ (VRs_cons.mpr ⟨ov, vs, rfl, r₁.tk k₂, r₂⟩)) (fun _ _ z => z.le (k₁.trans k₂)) fun _ _ e => e⟩
end calls

-- built-in functions
section builtins
variable {Q : AV → Led → Prop}
theorem B_lenB {b : List UInt8} (hz : b.length ≤ 1099511627776) (h : Q (.int b.length) Γ) : WL prog w s₀ A VR (fun vs => call (.builtin "len") vs) [.byt b] Γ Q := fun s vs S V => by
  obtain ⟨v, r, rfl, h1, h2⟩ := VRs_cons.mp V; cases VRs_nil.mp h2
  obtain ⟨t, rfl⟩ := VR_byt.mp h1
  refine PySem.W.len_bytes (by simpa using hz) (Post.tok S (VR_int.mpr ⟨s.toks + 1, ?_⟩) h _)
  simp
theorem OR.isList {h : Heap} {a : Addr} {l : List AV} (x : OR prog w h a (.lst l)) : OR prog w h a (.arr l) := let ⟨vs, p, r⟩ := x; ⟨vs, p.isList, r⟩
theorem B_lenL {a : Addr} {l : List AV} (hm : (a, AO.lst l) ∈ Γ) (hz : (l.length : Int) < 2 ^ 63) (h : Q (.int l.length) Γ) : WL prog w s₀ A VR (fun vs => call (.builtin "len") vs) [.ref a] Γ Q := fun s vs S V => by
  obtain ⟨v, r, rfl, h1, h2⟩ := VRs_cons.mp V; cases VRs_nil.mp h2
  cases VR_raw.mp h1
  obtain ⟨us, p, r⟩ := S.own _ hm
  have e := r.length
  refine call_len_list p.isList (by simpa [e] using hz) (Post.tok S (VR_int.mpr ⟨s.toks + 1, ?_⟩) h _)
  simp [e]
theorem B_min2 {a b : Int} (hh : A.handled = none) (h : Q (.int (if b < a then b else a)) Γ) : WL prog w s₀ A VR (fun vs => call (.builtin "min") vs) [.int a, .int b] Γ Q := fun s vs S V => by
  obtain ⟨v, r, rfl, h1, h2⟩ := VRs_cons.mp V
  obtain ⟨u, r, rfl, h3, h4⟩ := VRs_cons.mp h2; cases VRs_nil.mp h4
  obtain ⟨t, rfl⟩ := VR_int.mp h1; obtain ⟨t', rfl⟩ := VR_int.mp h3
  refine min_two_ints hh fun h' tk hk => Post.keepAll S hk ?_ h
  split
  · exact VR_int.mpr ⟨_, rfl⟩
  · exact VR_int.mpr ⟨_, rfl⟩
theorem B_max2 {a b : Int} (hh : A.handled = none) (h : Q (.int (if b > a then b else a)) Γ) : WL prog w s₀ A VR (fun vs => call (.builtin "max") vs) [.int a, .int b] Γ Q := fun s vs S V => by
  obtain ⟨v, r, rfl, h1, h2⟩ := VRs_cons.mp V
  obtain ⟨u, r, rfl, h3, h4⟩ := VRs_cons.mp h2; cases VRs_nil.mp h4
  obtain ⟨t, rfl⟩ := VR_int.mp h1; obtain ⟨t', rfl⟩ := VR_int.mp h3
  refine max_two_ints hh fun h' tk hk => Post.keepAll S hk ?_ h
  split
  · exact VR_int.mpr ⟨_, rfl⟩
  · exact VR_int.mpr ⟨_, rfl⟩
theorem B_str {a : Int} (ha : a.natAbs.log2 < 1920) (h : Q (.str (PySem.Str.ofString (toString a))) Γ) : WL prog w s₀ A VR (fun vs => call (.type "str") vs) [.int a] Γ Q := fun s vs S V => by
  obtain ⟨v, r, rfl, h1, h2⟩ := VRs_cons.mp V; cases VRs_nil.mp h2
  obtain ⟨t, rfl⟩ := VR_int.mp h1
  exact P.str_of_int ha (Post.tok S (VR_str.mpr ⟨_, rfl⟩) h _)
theorem VRs.intsAre {h : Heap} : ∀ {l : List Int} {vs : List Value}, VRs h (l.map AV.int) vs → IntsAre vs l
  | [], _, x => by cases VRs_nil.mp x; exact .nil
  | i :: l, _, x => by
    obtain ⟨v, r, rfl, h1, h2⟩ := VRs_cons.mp x
    obtain ⟨t, rfl⟩ := VR_int.mp h1
    exact .cons i t (VRs.intsAre h2)
theorem B_bytesL {a : Addr} {l : List Int} (hm : (a, AO.lst (l.map AV.int)) ∈ Γ) (hr : ∀ n ∈ l, 0 ≤ n ∧ n < 256) (hz : l.length ≤ sizeLine) (hh : A.handled = none)
    (h : Q (.byt (l.map fun n => n.toNat.toUInt8)) Γ) : WL prog w s₀ A VR (fun vs => call (.type "bytes") vs) [.ref a] Γ Q := fun s vs S V => by
  obtain ⟨v, r, rfl, h1, h2⟩ := VRs_cons.mp V; cases VRs_nil.mp h2
  cases VR_raw.mp h1
  obtain ⟨us, p, r⟩ := S.own _ hm
  have e := r.length
  exact call_bytes_ints p.isList r.intsAre hr (by simpa [e] using hz) hh fun h' t k hk => Post.keepAll S hk (VR_byt.mpr ⟨t, rfl⟩) h
end builtins
end
end

section
open PySem PySem.W PySem.Calls PyProof.Rows
set_option maxRecDepth 100000
set_option linter.unusedVariables false
section
variable {prog : Program} {w : World} {s₀ s : Shared} {A : Around} {Γ Γ' : Led}

-- displays
section displays
variable {env : Env} {pos : Pos} {k : Nat}
theorem E_tuple {elts : List Expr} {Q : AV → Led → Prop}
    (h : Wp prog w s₀ A VRs (spliced (backTo pos (starEach elts env))) Γ fun l Γ₁ => l.length ≤ sizeLine ∧ Q (.tup l) Γ₁) : Wp prog w s₀ A VR (eval (.Tuple elts k pos) env) Γ Q := fun s S =>
  PyProof.Rows.Tuple_ (wpAny_mono (h s S) (fun vs s₁ h₁ => by
    obtain ⟨k₁, l, Γ₁, r₁, S₁, hz, q₁⟩ := h₁
    refine wpAny_newObj_type ?_ (by show vs.toArray.size ≤ sizeLine; rw [List.size_toArray, r₁.length]; exact hz)
    have kp : TK s₁.heap (s₁.heap.push { cls := .type "tuple", data := .seq vs.toArray }) := TK.push _ _
    exact ⟨k₁.trans kp, .tup l, Γ₁, VR_tup.mpr ⟨_, vs, rfl, ⟨_, Heap.get?_push_size _ rfl, rfl, 0, rfl⟩, r₁.tk kp⟩, S₁.push0 _ s₁.toks, q₁⟩) fun _ _ e => e)
theorem E_list {elts : List Expr} {Q : AV → Led → Prop}
    (h : Wp prog w s₀ A VRs (spliced (backTo pos (starEach elts env))) Γ fun l Γ₁ => l.length ≤ sizeLine ∧ ∀ a, Q (.ref a) ((a, .lst l) :: Γ₁)) : Wp prog w s₀ A VR (eval (.List elts pos) env) Γ Q := fun s S =>
  PyProof.Rows.List_ (wpAny_mono (h s S) (fun vs s₁ h₁ => by
    obtain ⟨k₁, l, Γ₁, r₁, S₁, hz, q₁⟩ := h₁
    refine wpAny_newObj_type ?_ (by show vs.toArray.size ≤ sizeLine; rw [List.size_toArray, r₁.length]; exact hz)
    have kp : TK s₁.heap (s₁.heap.push { cls := .type "list", data := .seq vs.toArray }) := TK.push _ _
    exact ⟨k₁.trans kp, _, _, VR_raw.mpr rfl, S₁.push (y := .lst l) _ s₁.toks ⟨vs, ⟨0, Heap.get?_push_size _ rfl⟩, r₁.tk kp⟩, q₁ _⟩) fun _ _ e => e)
theorem E_dict {Q : AV → Led → Prop} (hlim : s₀.heap.NoLimit) (h : ∀ a, (a == sysModules) = false → Q (.ref a) ((a, .dct []) :: Γ)) : Wp prog w s₀ A VR (eval (.Dict [] [] pos) env) Γ Q := fun s S => by
  have e : eval (.Dict [] [] pos) env = (do standAt pos; dictDisplay []) := rfl
  rw [e]
  refine wpAny_bind (wpAny_standAt ?_)
  have e2 : dictDisplay [] = (newDict >>= fun d => pure d) := by
    first | rfl | (unfold dictDisplay; rfl)
  rw [e2]
  unfold newDict
  refine wpAny_bind (wpAny_newObj_type (wpAny_pure ?_) (by size_fits))
  exact ⟨TK.push _ _, _, _, VR_raw.mpr rfl, S.push (y := .dct []) _ s.toks ⟨[], Heap.DictOf.new _, rfl, VRs_nil.mpr rfl⟩, h _ (beq_eq_false_iff_ne.mpr (Nat.ne_of_gt (modules_low (hlim.keeps S.keep))))⟩
end displays

-- items
section items
variable {env : Env} {pos : Pos} {value slice : Expr} {Q : AV → Led → Prop}
theorem E_item (h : Wp prog w s₀ A VR (eval value env) Γ fun o Γ₁ => Wp prog w s₀ A VR (eval slice env) Γ₁ fun i Γ₂ => W2 prog w s₀ A VR (subscriptTail value slice) o i Γ₂ Q) :
    Wp prog w s₀ A VR (eval (.Subscript value slice pos) env) Γ Q := fun s S =>
  PyProof.Rows.Subscript_ (wpAny_mono (h s S) (fun a s₁ h₁ => by
    obtain ⟨k₁, av, Γ₁, r₁, S₁, q₁⟩ := h₁
    refine wpAny_mono (q₁ s₁ S₁) (fun b s₂ h₂ => ?_) fun _ _ e => e
    obtain ⟨k₂, bv, Γ₂, r₂, S₂, q₂⟩ := h₂
    exact wpAny_mono (q₂ s₂ a b S₂ (r₁.tk k₂) r₂) (fun _ _ z => z.le (k₁.trans k₂)) fun _ _ e => e) fun _ _ e => e)
theorem I_arr {a : Addr} {l : List AV} {i : Int} {av : AV} (hm : (a, AO.arr l) ∈ Γ) (h0 : 0 ≤ i) (hi : i < 2 ^ 63) (hx : l[i.toNat]? = some av) (h : Q av Γ)
    (hs : ∀ o u, subscripted slice false (.ref o) (.int i u) = operate [.ref o, .int i u] (getItem (.ref o) (.int i u))) :
    W2 prog w s₀ A VR (subscriptTail value slice) (.ref a) (.int i) Γ Q := fun s v u S r q => by
  cases VR_raw.mp r; obtain ⟨t, rfl⟩ := VR_int.mp q
  obtain ⟨vs, p, rs⟩ := S.own _ hm
  obtain ⟨x, hx', rx⟩ := rs.get hx
  exact tail_any p.typeIs slot_list_getitem.lookup (wpAny_getItem_list p h0 hi (by simpa using hx') (Post.stay S rx h)) (hs a t)
theorem I_lst {a : Addr} {l : List AV} {i : Int} {av : AV} (hm : (a, AO.lst l) ∈ Γ) (h0 : 0 ≤ i) (hi : i < 2 ^ 63) (hx : l[i.toNat]? = some av) (h : Q av Γ)
    (hs : ∀ o u, subscripted slice false (.ref o) (.int i u) = operate [.ref o, .int i u] (getItem (.ref o) (.int i u))) :
    W2 prog w s₀ A VR (subscriptTail value slice) (.ref a) (.int i) Γ Q := fun s v u S r q => by
  cases VR_raw.mp r; obtain ⟨t, rfl⟩ := VR_int.mp q
  obtain ⟨vs, p, rs⟩ := S.own _ hm
  obtain ⟨x, hx', rx⟩ := rs.get hx
  exact tail_any p.isList.typeIs slot_list_getitem.lookup (wpAny_getItem_list p.isList h0 hi (by simpa using hx') (Post.stay S rx h)) (hs a t)
theorem I_tup {l : List AV} {i : Int} {av : AV} (h0 : 0 ≤ i) (hi : i < 2 ^ 63) (hx : l[i.toNat]? = some av) (h : Q av Γ)
    (hs : ∀ o u, subscripted slice false (.ref o) (.int i u) = operate [.ref o, .int i u] (getItem (.ref o) (.int i u))) :
    W2 prog w s₀ A VR (subscriptTail value slice) (.tup l) (.int i) Γ Q := fun s v u S r q => by
  obtain ⟨a, vs, rfl, ht, rs⟩ := VR_tup.mp r; obtain ⟨t, rfl⟩ := VR_int.mp q
  obtain ⟨x, hx', rx⟩ := rs.get hx
  have hlt : i.toNat < vs.length := (List.getElem?_eq_some_iff.mp hx').1
  exact item_tupleT ht (by omega) hi (seqIndex_of h0 (by omega)) hx' (Post.stay S rx h) (hs a t)
theorem I_byt {b : List UInt8} {i : Int} {c : UInt8} (hfit : b.length ≤ 1099511627776) (h0 : 0 ≤ i) (hx : b[i.toNat]? = some c) (h : Q (.int c.toNat) Γ)
    (hs : ∀ o u v, subscripted slice false (.bytes o u) (.int i v) = operate [.bytes o u, .int i v] (getItem (.bytes o u) (.int i v))) :
    W2 prog w s₀ A VR (subscriptTail value slice) (.byt b) (.int i) Γ Q := fun s v u S r q => by
  obtain ⟨t, rfl⟩ := VR_byt.mp r; obtain ⟨t', rfl⟩ := VR_int.mp q
  have hlt : i.toNat < b.length := (List.getElem?_eq_some_iff.mp hx).1
  have e : b.getD i.toNat 0 = c := by rw [List.getD_eq_getElem?_getD, hx]; rfl
  exact tail_any (typeIs_bytes _ _ _) FB.slot_bytes_getitem.lookup (PySem.W.getItem_bytes hfit h0 (by omega) (by rw [e]; exact Post.tok S (VR_int.mpr ⟨_, rfl⟩) h _)) (hs _ _ _)
end items

-- slices
/-- a part of a slice -/
def PR (_ : Heap) (o : Option Int) (v : Value) : Prop := IsPart v o
section slices
variable {env : Env} {pos spos : Pos} {value : Expr} {Q : AV → Led → Prop}
theorem P_none {Q : Option Int → Led → Prop} (h : Q none Γ) : Wp prog w s₀ A PR (valueOrNone (evalOpt none env)) Γ Q := fun s S => by
  show wpAny _ _ (pure Value.none) _ _ s
  exact wpAny_pure (Post.stay S IsPart.none h)
theorem P_some {e : Expr} {Q : Option Int → Led → Prop} (h : Wp prog w s₀ A VR (eval e env) Γ fun a Γ₁ => ∃ i, a = .int i ∧ Q (some i) Γ₁) : Wp prog w s₀ A PR (valueOrNone (evalOpt (some e) env)) Γ Q := fun s S => by
  show wpAny _ _ (eval e env) _ _ s
  refine wpAny_mono (h s S) (fun v s₁ h₁ => ?_) fun _ _ e => e
  obtain ⟨k₁, av, Γ₁, r₁, S₁, i, rfl, q₁⟩ := h₁
  obtain ⟨t, rfl⟩ := VR_int.mp r₁
  exact ⟨k₁, some i, Γ₁, IsPart.int i t, S₁, q₁⟩
/-- l[lo:hi] -/
def cut {α : Type} (l : List α) (lo hi : Option Int) : List α := (l.drop (lo.elim 0 (clipAt l.length))).take (hi.elim l.length (clipAt l.length) - lo.elim 0 (clipAt l.length))
theorem picked_cut (b : List UInt8) (lo hi : Option Int) : KBy.picked b.toArray lo hi = (cut b lo hi).toArray := by
  rw [KBc.picked_eq]; rfl
theorem E_sliceB {lo hi : Option Expr}
    (h : Wp prog w s₀ A VR (eval value env) Γ fun o Γ₁ => ∃ b, o = .byt b ∧ b.length ≤ 16777216 ∧ Wp prog w s₀ A PR (valueOrNone (evalOpt lo env)) Γ₁ fun l Γ₂ =>
      Wp prog w s₀ A PR (valueOrNone (evalOpt hi env)) Γ₂ fun u Γ₃ => Q (.byt (cut b l u)) Γ₃)
    (hs : ∀ o t a, subscripted (.Slice lo hi none spos) false (.bytes o t) (.ref a) = operate [.ref a, .bytes o t] (getItem (.bytes o t) (.ref a)) := by intro _ _ _; with_unfolding_all rfl) :
    Wp prog w s₀ A VR (eval (.Subscript value (.Slice lo hi none spos) pos) env) Γ Q := fun s S =>
  PyProof.Rows.Subscript_ (wpAny_mono (h s S) (fun a s₁ h₁ => by
    obtain ⟨k₁, av, Γ₁, r₁, S₁, b, rfl, hz, q₁⟩ := h₁
    obtain ⟨t, rfl⟩ := VR_byt.mp r₁
    have e : eval (.Slice lo hi none spos) env = (do
      let l ← valueOrNone (evalOpt lo env)
      let u ← holding [l] (valueOrNone (evalOpt hi env))
      let s ← holding [l, u] (valueOrNone (evalOpt none env))
      newFields "slice" [l, u, s]) := rfl
    rw [e]
    refine wpAny_bind (wpAny_mono (q₁ s₁ S₁) (fun lv s₂ h₂ => ?_) fun _ _ e => e)
    obtain ⟨k₂, lo', Γ₂, p₂, S₂, q₂⟩ := h₂
    refine wpAny_bind (wpAny_holding (wpAny_mono (q₂ s₂ S₂) (fun uv s₃ h₃ => ?_) fun _ _ e => e))
    obtain ⟨k₃, hi', Γ₃, p₃, S₃, q₃⟩ := h₃
    refine wpAny_bind (wpAny_holding ?_)
    show wpAny _ _ (pure Value.none) _ _ s₃
    refine wpAny_pure ?_
    refine wpAny_newObj_type ?_ (by size_fits)
    have kk : TK s.heap (s₃.heap.push { cls := .type "slice", data := .fields #[lv, uv, .none] }) := ((k₁.trans k₂).trans k₃).trans (TK.push _ _)
    refine tail_any (typeIs_bytes _ _ _) FB.slot_bytes_getitem.lookup
      (getItem_meets (typeIs_bytes _ _ _) (by decide) FB.slot_bytes_getitem FB.entry_bytes_getitem (FB.args_bytes_getitem_2 _ _) (KBc.meets_slice2 b.toArray t _ p₂ p₃)
        ⟨Heap.IsSliceOf.new _ _ _ _, Nat.le_trans (KBc.size_picked_le _ _ _) (by rw [sizeLine_eq]; simpa using hz), fun t' k => ?_⟩) (hs _ _ _)
    rw [picked_cut]
    exact ⟨kk, _, Γ₃, VR_byt.mpr ⟨t', rfl⟩, S₃.push0 _ _, q₃⟩) fun _ _ e => e)
end slices

-- stores
section stores
variable {env : Env} {pos : Pos} {Q : Unit → Led → Prop}
theorem A_item {o i : Expr} {v : AV} (h : Wp prog w s₀ A VR (eval o env) Γ fun ov Γ₁ => Wp prog w s₀ A VR (eval i env) Γ₁ fun iv Γ₂ => W3 prog w s₀ A UR setItem ov iv v Γ₂ Q) :
    W1 prog w s₀ A UR (fun v => assign (.Subscript o i pos) env v) v Γ Q := fun s v S r => by
  show wpAny _ _ (assign (.Subscript o i pos) env v) _ _ s
  rw [arm_assign_Subscript]
  refine wpAny_bind (wpAny_holding (wpAny_mono (h s S) (fun ov s₁ h₁ => ?_) fun _ _ e => e))
  obtain ⟨k₁, oav, Γ₁, r₁, S₁, q₁⟩ := h₁
  refine wpAny_bind (wpAny_holding (wpAny_mono (q₁ s₁ S₁) (fun iv s₂ h₂ => ?_) fun _ _ e => e))
  obtain ⟨k₂, iav, Γ₂, r₂, S₂, q₂⟩ := h₂
  refine wpAny_bind (wpAny_standAt (wpAny_bind (wpAny_holding (wpAny_mono (q₂ s₂ ov iv v S₂ (r₁.tk k₂) r₂ (r.tk (k₁.trans k₂))) (fun _ s₃ h₃ => ?_) fun _ _ e => e))))
  obtain ⟨k₃, _, Γ₃, _, S₃, q₃⟩ := h₃
  refine fun Γc p hΓ => ?_
  rw [Sem.wp_release]
  exact ⟨(k₁.trans k₂).trans k₃, (), Γ₃, trivial, S₃, q₃⟩
theorem VRs.set {h : Heap} : ∀ {l : List AV} {vs : List Value} {i : Nat} {a : AV} {v : Value}, VRs h l vs → VR h a v → VRs h (l.set i a) (vs.set i v)
  | [], _, _, _, _, x, _ => by cases VRs_nil.mp x; exact x
  | _ :: l, _, i, a, v, x, y => by
    obtain ⟨u, r, rfl, h1, h2⟩ := VRs_cons.mp x
    cases i with
    | zero => exact VRs_cons.mpr ⟨v, r, rfl, y, h2⟩
    | succ i => exact VRs_cons.mpr ⟨u, _, rfl, h1, VRs.set h2 y⟩
theorem I_setArr {a : Addr} {l : List AV} {i : Int} {v : AV} (u : Upd a (.arr l) (.arr (l.set i.toNat v)) Γ Γ') (h0 : 0 ≤ i) (hf : i < 2 ^ 63) (hi : i < l.length) (h : Q () Γ') :
    W3 prog w s₀ A UR setItem (.ref a) (.int i) v Γ Q := fun s ov iv x S r₁ r₂ r₃ => by
  cases VR_raw.mp r₁; obtain ⟨t, rfl⟩ := VR_int.mp r₂
  obtain ⟨vs, p, rs⟩ := S.own _ u.mem
  refine wpAny_setItem_list p h0 hf (by have := rs.length; simp; omega) fun h' hl' hs => ?_
  obtain ⟨k, S'⟩ := S.ext u hs.extBut s.toks fun k => ⟨vs.set i.toNat x, by simpa using hl', (rs.tk k).set (r₃.tk k)⟩
  exact ⟨k, (), Γ', trivial, S', h⟩
theorem I_setDct {a : Addr} {l : List (Int × AV)} {i : Int} {v : AV} (u : Upd a (.dct l) (.dct (l ++ [(i, v)])) Γ Γ') (hn : i ∉ l.map (·.1)) (hz : l.length ≤ sizeLine) (h : Q () Γ') :
    W3 prog w s₀ A UR setItem (.ref a) (.int i) v Γ Q := fun s ov iv x S r₁ r₂ r₃ => by
  cases VR_raw.mp r₁; obtain ⟨t, rfl⟩ := VR_int.mp r₂
  obtain ⟨kvs, p, ek, rs⟩ := S.own _ u.mem
  have hl : kvs.length = l.length := by simpa using congrArg List.length ek
  refine wpAny_setItem_pairs (intKind_is prog w i t) p (fun h' hd hs => ?_) (by omega)
  have hst : stored kvs i x = kvs ++ [(i, x)] := by
    unfold stored
    rw [if_neg]
    intro hany
    obtain ⟨q, hq, e⟩ := List.any_eq_true.mp hany
    have e : q.1 = i := of_decide_eq_true e
    rw [← ek] at hn
    exact hn (by rw [← e]; exact List.mem_map_of_mem (f := (·.1)) hq)
  rw [hst] at hd
  obtain ⟨k, S'⟩ := S.ext u hs.extBut (s.toks + 1) fun k => ⟨kvs ++ [(i, x)], hd, by simp [ek], by
    simp only [List.map_append, List.map_cons, List.map_nil]
    exact (rs.tk k).append (VRs.one (r₃.tk k))⟩
  exact ⟨k, (), Γ', trivial, S', h⟩
end stores

-- several targets
section targets
variable {env : Env} {pos : Pos} {k : Nat}
/-- each target its value, in order -/
def AssignIn (prog : Program) (w : World) (s₀ : Shared) (A : Around) (ts : List (Value → Sem Unit)) (l : List AV) (Γ : Led) (Q : Unit → Led → Prop) : Prop :=
  WL prog w s₀ A UR (fun vs => assignInOrder ts vs) l Γ Q
theorem AI_nil {l : List AV} {Q : Unit → Led → Prop} (h : Q () Γ) : AssignIn prog w s₀ A [] l Γ Q := fun s vs S V => by
  show wpAny _ _ (assignInOrder [] vs) _ _ s
  have e : assignInOrder [] vs = pure () := by cases vs <;> rfl
  rw [e]
  exact wpAny_pure (Post.stay (b := ()) S trivial h)
theorem AI_cons {t : Value → Sem Unit} {ts : List (Value → Sem Unit)} {a : AV} {l : List AV} {Q : Unit → Led → Prop}
    (h : W1 prog w s₀ A UR t a Γ fun _ Γ₁ => AssignIn prog w s₀ A ts l Γ₁ Q) : AssignIn prog w s₀ A (t :: ts) (a :: l) Γ Q := fun s vs S V => by
  obtain ⟨v, r, rfl, h1, h2⟩ := VRs_cons.mp V
  show wpAny _ _ (do holding r (t v); assignInOrder ts r) _ _ s
  refine wpAny_bind (wpAny_holding (wpAny_mono (h s v S h1) (fun _ s₁ h₁ => ?_) fun _ _ e => e))
  obtain ⟨k₁, _, Γ₁, _, S₁, q₁⟩ := h₁
  exact wpAny_mono (q₁ s₁ r S₁ (h2.tk k₁)) (fun _ _ z => z.le k₁) fun _ _ e => e
theorem St.extNew {h' : Heap} (S : St prog w s₀ Γ s) (he : Heap.ExtBut s.heap.objs.size s.heap h') (tk : Nat) : TK s.heap h' ∧ St prog w s₀ Γ { s with heap := h', toks := tk } :=
  S.keepAll (fun b o e => he b o (Nat.ne_of_lt (Heap.lt_size e)) e) tk
theorem A_tuple {elts : List Expr} {l : List AV} {Q : Unit → Led → Prop} (hh : A.handled = none) (hn : (assignEach elts env).length = l.length) (hstar : (assignEach elts env).findIdx? (·.1) = none)
    (h : AssignIn prog w s₀ A ((assignEach elts env).map (·.2)) l Γ Q) : W1 prog w s₀ A UR (fun v => assign (.Tuple elts k pos) env v) (.tup l) Γ Q := fun s v S r => by
  obtain ⟨a, vs, rfl, ht, rs⟩ := VR_tup.mp r
  refine assign_Tuple_tuple hh ht (by rw [hn]; simp [rs.length]) hstar fun h' he => ?_
  obtain ⟨k, S'⟩ := S.extNew he s.toks
  exact wpAny_mono (h _ vs S' (rs.tk k)) (fun _ _ z => z.le k) fun _ _ e => e
/-- two or three names stored the other way round -/
theorem X_swap {elts : List Expr} {tpos : Pos} {value : Expr} {names : List PySem.Str} {Q : AF → Led → Prop} (hh : A.handled = none)
    (h : Wp prog w s₀ A VR (eval value env) Γ fun a Γ₁ => ∃ l, a = .tup l ∧ l.length = names.length ∧ AssignIn prog w s₀ A (names.reverse.map fun n => bindName env n) l.reverse Γ₁ fun _ Γ₂ => Q .next Γ₂)
    (hs : swapsWithSole [.Tuple elts k tpos] value pos.line env = pure false := by rfl)
    (hw : swappedStores [.Tuple elts k tpos] value env = pure (some names) := by rfl) :
    Wp prog w s₀ A FR (exec (.Assign [.Tuple elts k tpos] value pos) env) Γ Q := fun s S =>
  Assign_Tuple_swapped (wpAny_mono (h s S) (fun v s₁ h₁ => by
    obtain ⟨k₁, av, Γ₁, r₁, S₁, l, rfl, hl, q₁⟩ := h₁
    obtain ⟨a, vs, rfl, ht, rs⟩ := VR_tup.mp r₁
    have e : names.length = vs.toArray.size := by rw [← hl, List.size_toArray, rs.length]
    rw [e]
    refine unpackItems_tuple hh ht fun h' he => ?_
    obtain ⟨k₂, S₂⟩ := S₁.extNew he s₁.toks
    have rv : ∀ {l : List AV} {vs : List Value} {h : Heap}, VRs h l vs → VRs h l.reverse vs.reverse := by
      intro l
      induction l with
      | nil => intro vs h x; cases VRs_nil.mp x; exact x
      | cons a l ih =>
        intro vs h x
        obtain ⟨v, r, rfl, h1, h2⟩ := VRs_cons.mp x
        rw [List.reverse_cons, List.reverse_cons]
        exact (ih h2).append (VRs.one h1)
    refine wpAny_mono (q₁ _ vs.reverse S₂ (rv (rs.tk k₂))) (fun _ s₃ h₃ => ?_) fun _ _ e => e
    obtain ⟨k₃, _, Γ₃, _, S₃, q₃⟩ := h₃
    exact ⟨(k₁.trans k₂).trans k₃, .next, Γ₃, rfl, S₃, q₃⟩) fun _ _ e => e) hs hw
theorem A_bind {x : PySem.Str} {a : AV} {Q : Unit → Led → Prop} (h : W1 prog w s₀ A UR (fun v => storeName env x v) a Γ Q) : W1 prog w s₀ A UR (bindName env x) a Γ Q :=
  fun s v S r => wpAny_bindName (h s v S r)
end targets
end
end

section
open PySem PySem.W PySem.Calls PyProof.Rows
set_option maxRecDepth 100000
set_option linter.unusedVariables false
section
variable {prog : Program} {w : World} {s₀ s : Shared} {A : Around} {Γ Γ' : Led}

/-- how a turn of a loop ends -/
def Turn (K : Led → Prop) (Q : AF → Led → Prop) (f : AF) (Γ : Led) : Prop := match f with
  | .next => ∃ Γ', List.Sublist Γ' Γ ∧ K Γ'
  | .cont => ∃ Γ', List.Sublist Γ' Γ ∧ K Γ'
  | .brk => Q .next Γ
  | .ret v => Q (.ret v) Γ
/-- behind a statement -/
def Then (prog : Program) (w : World) (s₀ : Shared) (A : Around) (rest : List Stmt) (env : Env) (Q : AF → Led → Prop) (f : AF) (Γ : Led) : Prop := match f with
  | .next => Wp prog w s₀ A FR (execs rest env) Γ Q
  | .brk => Q .brk Γ
  | .cont => Q .cont Γ
  | .ret v => Q (.ret v) Γ
theorem X_seq {st : Stmt} {rest : List Stmt} {env : Env} {Q : AF → Led → Prop} (h : Wp prog w s₀ A FR (exec st env) Γ (Then prog w s₀ A rest env Q)) : Wp prog w s₀ A FR (execs (st :: rest) env) Γ Q :=
  X_cons (h.mono fun f Γ₁ q => by cases f <;> exact q)
theorem then_next {rest : List Stmt} {env : Env} {Q : AF → Led → Prop} (h : Wp prog w s₀ A FR (execs rest env) Γ Q) : Then prog w s₀ A rest env Q .next Γ := h
theorem then_ret {rest : List Stmt} {env : Env} {Q : AF → Led → Prop} {v : AV} (h : Q (.ret v) Γ) : Then prog w s₀ A rest env Q (.ret v) Γ := h
theorem turn_next {K : Led → Prop} {Q : AF → Led → Prop} (Γ' : Led) (hs : List.Sublist Γ' Γ) (h : K Γ') : Turn K Q .next Γ := ⟨Γ', hs, h⟩
theorem turn_ret {K : Led → Prop} {Q : AF → Led → Prop} {v : AV} (h : Q (.ret v) Γ) : Turn K Q (.ret v) Γ := h

theorem noE {α : Type} {M : Model} {A : Around} {t : Sem α} {Q Q' : α → Shared → Prop} {E : Value → Shared → Prop} {s : Shared} (h : wpAny M A t Q (fun _ _ => False) s) (q : ∀ a s', Q a s' → Q' a s') : wpAny M A t Q' E s :=
  wpAny_mono h q fun _ _ e => e.elim

section loops
variable {env : Env} {pos : Pos} {Q : AF → Led → Prop}
theorem X_while {test : Expr} {body : List Stmt} (J : Nat → Led → Prop) (n₀ : Nat) (hJ : J n₀ Γ)
    (turn : ∀ n Γ₁, J n Γ₁ → Wp prog w s₀ A BR (isTrue test env (eval test env)) Γ₁ fun b Γ₂ =>
      if b then Wp prog w s₀ A FR (execs body env) Γ₂ (Turn (fun Γ₃ => ∃ m, m < n ∧ J m Γ₃) Q) else Q .next Γ₂) :
    Wp prog w s₀ A FR (exec (.While test body [] pos) env) Γ Q := fun s S => by
  refine wpAny_While (codeAny_whileLoop (fun n s' => TK s.heap s'.heap ∧ ∃ Γ₁, St prog w s₀ Γ₁ s' ∧ J n Γ₁) ?_ n₀ ⟨TK.refl _, Γ, S, hJ⟩)
  rintro n s' ⟨k, Γ₁, S₁, j⟩
  refine noE (turn n Γ₁ j s' S₁) fun b s₂ h₂ => ?_
  obtain ⟨k₂, b', Γ₂, r₂, S₂, q₂⟩ := h₂
  have r₂ : b = b' := r₂
  subst r₂
  cases b with
  | false => exact wpAny_execs_nil ⟨k.trans k₂, .next, Γ₂, rfl, S₂, q₂⟩
  | true =>
    refine noE (q₂ s₂ S₂) fun f s₃ h₃ => ?_
    obtain ⟨k₃, af, Γ₃, r₃, S₃, q₃⟩ := h₃
    cases af with
    | next =>
      have r₃ : f = .next := r₃
      subst r₃
      obtain ⟨Γ₄, hs, m, hm, j'⟩ := q₃
      exact ⟨m, hm, (k.trans k₂).trans k₃, Γ₄, S₃.sublist hs, j'⟩
    | cont =>
      have r₃ : f = .cont := r₃
      subst r₃
      obtain ⟨Γ₄, hs, m, hm, j'⟩ := q₃
      exact ⟨m, hm, (k.trans k₂).trans k₃, Γ₄, S₃.sublist hs, j'⟩
    | brk =>
      have r₃ : f = .brk := r₃
      subst r₃
      exact ⟨(k.trans k₂).trans k₃, .next, Γ₃, rfl, S₃, q₃⟩
    | ret a =>
      obtain ⟨v, rfl, r⟩ := r₃
      exact ⟨(k.trans k₂).trans k₃, .ret a, Γ₃, ⟨v, rfl, r⟩, S₃, q₃⟩

/-- an iterator: how it is at place i, what it gives there -/
structure Itr (prog : Program) (w : World) (s₀ : Shared) (A : Around) (n : Nat) (src : Led → Prop) (at_ : Nat → AO) (item : Nat → AV) : Prop where
  up : ∀ (p : Addr × AO) (Γ : Led), src Γ → src (p :: Γ)
  next : ∀ (I : Addr) (i : Nat) (Γ : Led) (s : Shared) (E : Value → Shared → Prop) (Q : Option Value → Shared → Prop), i < n → src Γ → St prog w s₀ ((I, at_ i) :: Γ) s →
    (∀ v s', TK s.heap s'.heap → St prog w s₀ ((I, at_ (i + 1)) :: Γ) s' → VR s'.heap (item i) v → Q (some v) s') → wpAny (model prog w) A (pyNext (.ref I)) Q E s
  stop : ∀ (I : Addr) (Γ : Led) (s : Shared) (E : Value → Shared → Prop) (Q : Option Value → Shared → Prop), src Γ → St prog w s₀ ((I, at_ n) :: Γ) s →
    (∀ s', TK s.heap s'.heap → St prog w s₀ Γ s' → Q none s') → wpAny (model prog w) A (pyNext (.ref I)) Q E s
  self : ∀ (I : Addr) (i : Nat) (Γ : Led) (s : Shared) (E : Value → Shared → Prop) (Q : Value → Shared → Prop), St prog w s₀ ((I, at_ i) :: Γ) s → Q (.ref I) s → wpAny (model prog w) A (pyIter (.ref I)) Q E s
  lets : ∀ (I : Addr) (i : Nat) (Γ : Led) (s : Shared) (E : Value → Shared → Prop) (Q : Unit → Shared → Prop) (target : Expr) (v : Value), (∃ x p, target = .Name x p) ∨ (∃ l i', at_ i = .itL l i') →
    St prog w s₀ ((I, at_ i) :: Γ) s → (∃ x p, target = .Name x p) ∨ ((∃ es k p, target = .Tuple es k p) ∧ ∃ T, v = .ref T) → Q () s → wpAny (model prog w) A (letOwnedTupleGo target (.ref I) v) Q E s

theorem itr_byt (hh : A.handled = none) (b : List UInt8) : Itr prog w s₀ A b.length (fun _ => True) (fun i => .itB b i) (fun i => .int (b.getD i 0).toNat) where
  up := fun _ _ h => h
  next := fun I i Γ s E Q hi _ S h => by
    obtain ⟨t, hit⟩ := S.own _ (.head _)
    refine KBw.next_item hit (c := b.getD i 0) (by simp [List.getD_eq_getElem?_getD, hi]) fun h' hit' hs' => ?_
    obtain ⟨k, S'⟩ := S.ext (y := .itB b (i + 1)) .head hs'.extBut (s.toks + 1) fun k => ⟨t, hit'⟩
    exact h _ _ k S' (VR_int.mpr ⟨_, rfl⟩)
  stop := fun I Γ s E Q _ S h => by
    obtain ⟨t, hit⟩ := S.own _ (.head _)
    refine KBw.next_end hh hit (by simp) fun h' he => ?_
    obtain ⟨k, S'⟩ := S.del .head he s.toks
    exact h _ k S'
  self := fun I i Γ s E Q S h => by
    obtain ⟨t, hit⟩ := S.own _ (.head _)
    exact KBw.pyIter_self hit h
  lets := fun I i Γ s E Q target v hn S hk h => by
    rcases hn with ⟨x, p, rfl⟩ | ⟨l, i', e⟩
    · exact wpAny_of_eq (a := ()) rfl h
    · cases e

theorem itr_rng (hh : A.handled = none) (n : Nat) : Itr prog w s₀ A n (fun _ => True) (fun i => .itR i (n - i)) (fun i => .int i) where
  up := fun _ _ h => h
  next := fun I i Γ s E Q hi _ S h => by
    have hit := S.own _ (.head _)
    refine wpAny_pyNext_range_item hit (by omega) fun h' hit' hs' => ?_
    obtain ⟨k, S'⟩ := S.ext (y := .itR ((i + 1 : Nat) : Int) (n - (i + 1 : Nat))) .head hs'.extBut (s.toks + 1) fun k => by
      show IsRangeIter h' I _ _ 1
      have e1 : ((i + 1 : Nat) : Int) = (i : Int) + 1 := by omega
      have e2 : (n : Int) - ((i + 1 : Nat) : Int) = (n : Int) - (i : Int) - 1 := by omega
      rw [e2, e1]; exact hit'
    exact h _ _ k S' (VR_int.mpr ⟨_, rfl⟩)
  stop := fun I Γ s E Q _ S h => by
    have hit := S.own _ (.head _)
    refine wpAny_pyNext_range_end hh hit (by omega) fun h' he => ?_
    obtain ⟨k, S'⟩ := S.del .head he s.toks
    exact h _ k S'
  self := fun I i Γ s E Q S h => by
    have hit := S.own _ (.head _)
    exact wpAny_pyIter_rangeiter hit h
  lets := fun I i Γ s E Q target v hn S hk h => by
    rcases hn with ⟨x, p, rfl⟩ | ⟨l, i', e⟩
    · exact wpAny_of_eq (a := ()) rfl h
    · cases e

theorem itr_lst (hh : A.handled = none) (a : Addr) (l : List AV) : Itr prog w s₀ A l.length (fun Γ => (a, AO.lst l) ∈ Γ) (fun i => .itL a i) (fun i => l.getD i .none) where
  up := fun _ _ h => List.mem_cons_of_mem _ h
  next := fun I i Γ s E Q hi hm S h => by
    have hit := S.own _ (.head _)
    obtain ⟨vs, p, rs⟩ := S.own _ (List.mem_cons_of_mem _ hm)
    have hx : l[i]? = some (l.getD i .none) := by simp [List.getD_eq_getElem?_getD, hi]
    obtain ⟨x, hx', rx⟩ := rs.get hx
    refine wpAny_pyNext_list_item hit p.isList (by simpa using hx') fun h' hit' hs' => ?_
    obtain ⟨k, S'⟩ := S.ext (y := .itL a (i + 1)) .head hs'.extBut s.toks fun k => hit'
    exact h _ _ k S' (rx.tk k)
  stop := fun I Γ s E Q hm S h => by
    have hit := S.own _ (.head _)
    obtain ⟨vs, p, rs⟩ := S.own _ (List.mem_cons_of_mem _ hm)
    have e := rs.length
    refine wpAny_pyNext_list_end hh hit p.isList (by simp [e]) fun h' he => ?_
    obtain ⟨k, S'⟩ := S.del .head he s.toks
    exact h _ k S'
  self := fun I i Γ s E Q S h => by
    have hit := S.own _ (.head _)
    exact wpAny_pyIter_listiter hit h
  lets := fun I i Γ s E Q target v hn S hk h => by
    rcases hk with ⟨x, p, rfl⟩ | ⟨⟨es, k, p, rfl⟩, T, rfl⟩
    · exact wpAny_of_eq (a := ()) rfl h
    · have hit : s.heap.IsListIter I a i := S.own _ (.head _)
      exact wpAny_letOwnedTupleGo_listiter hit h

/-- what a for goes over -/
inductive Over : AV → Led → Nat → (Led → Prop) → (Nat → AO) → (Nat → AV) → Prop
  | byt (b : List UInt8) (Γ : Led) : Over (.byt b) Γ b.length (fun _ => True) (fun i => .itB b i) (fun i => .int (b.getD i 0).toNat)
  | rng (a : Addr) (n : Nat) (Γ : Led) : (a, AO.rng n) ∈ Γ → n < 2 ^ 61 → Over (.ref a) Γ n (fun _ => True) (fun i => .itR i (n - i)) (fun i => .int i)
  | lst (a : Addr) (l : List AV) (Γ : Led) : (a, AO.lst l) ∈ Γ → Over (.ref a) Γ l.length (fun Γ => (a, AO.lst l) ∈ Γ) (fun i => .itL a i) (fun i => l.getD i .none)

theorem Over.itr {x : AV} {n : Nat} {src : Led → Prop} {at_ : Nat → AO} {item : Nat → AV} (o : Over x Γ n src at_ item) (hh : A.handled = none) : Itr prog w s₀ A n src at_ item := by
  cases o with
  | byt b => exact itr_byt hh b
  | rng a n _ => exact itr_rng hh n
  | lst a l _ => exact itr_lst hh a l
theorem Over.src {x : AV} {n : Nat} {src : Led → Prop} {at_ : Nat → AO} {item : Nat → AV} (o : Over x Γ n src at_ item) : src Γ := by
  cases o with
  | byt b => trivial
  | rng a n _ => trivial
  | lst a l _ h => exact h

theorem Over.iter {x : AV} {n : Nat} {src : Led → Prop} {at_ : Nat → AO} {item : Nat → AV} (o : Over x Γ n src at_ item) {v : Value} {E : Value → Shared → Prop} {Q : Value → Shared → Prop} (S : St prog w s₀ Γ s) (r : VR s.heap x v)
    (h : ∀ I s', TK s.heap s'.heap → St prog w s₀ ((I, at_ 0) :: Γ) s' → Q (.ref I) s') : wpAny (model prog w) A (pyIter v) Q E s := by
  cases o with
  | byt b =>
    obtain ⟨t, rfl⟩ := VR_byt.mp r
    refine KBw.pyIter_bytes ?_
    exact h _ _ (TK.push _ _) (S.push (y := .itB b 0) _ s.toks ⟨t, _, Heap.get?_push_size _ rfl, rfl, rfl⟩)
  | rng a n _ hm hz =>
    cases VR_raw.mp r
    obtain ⟨t, u, v, hr⟩ := S.own _ hm
    refine wpAny_pyIter_range hr (small_one (by omega) (by omega) (by omega) (by omega)) ?_
    refine h _ _ (TK.push _ _) (S.push (y := .itR ((0 : Nat) : Int) (n - (0 : Nat))) _ s.toks ?_)
    show IsRangeIter _ _ _ _ 1
    have e : Builtin.Range.rangeSize 0 (n : Int) 1 = (n : Int) - ((0 : Nat) : Int) := by rw [rangeSize_one]; split <;> omega
    rw [← e]
    exact Heap.get?_push_size _ rfl
  | lst a l _ hm =>
    cases VR_raw.mp r
    obtain ⟨vs, p, rs⟩ := S.own _ hm
    refine wpAny_pyIter_list p.isList ?_
    exact h _ _ (TK.push _ _) (S.push (y := .itL a 0) _ s.toks ⟨_, Heap.get?_push_size _ rfl, rfl, rfl⟩)

def TargetOk (n : Nat) (at_ : Nat → AO) (item : Nat → AV) (target : Expr) : Prop := (∃ x p, target = .Name x p) ∨ ((∃ es k p, target = .Tuple es k p) ∧ (∀ i, ∃ l i', at_ i = .itL l i') ∧ ∀ i, i < n → ∃ l, item i = .tup l)
theorem TargetOk.name {n : Nat} {at_ : Nat → AO} {item : Nat → AV} {x : PySem.Str} {p : Pos} : TargetOk n at_ item (.Name x p) := .inl ⟨x, p, rfl⟩
theorem TargetOk.tup {n : Nat} {a : Addr} {item : Nat → AV} {es : List Expr} {k} {p : Pos} (h : ∀ i, i < n → ∃ l, item i = .tup l) : TargetOk n (fun i => .itL a i) item (.Tuple es k p) := .inr ⟨⟨es, k, p, rfl⟩, fun i => ⟨a, i, rfl⟩, h⟩
theorem TargetOk.lets {n : Nat} {at_ : Nat → AO} {item : Nat → AV} {target : Expr} (t : TargetOk n at_ item target) {i : Nat} (hi : i < n) {h : Heap} {v : Value} (r : VR h (item i) v) :
    ((∃ x p, target = .Name x p) ∨ (∃ l i', at_ (i + 1) = .itL l i')) ∧ ((∃ x p, target = .Name x p) ∨ ((∃ es k p, target = .Tuple es k p) ∧ ∃ T, v = .ref T)) := by
  rcases t with t | ⟨t, t', t''⟩
  · exact ⟨.inl t, .inl t⟩
  · obtain ⟨l, e⟩ := t'' i hi
    rw [e] at r
    obtain ⟨a, vs, rfl, _⟩ := VR_tup.mp r
    exact ⟨.inr (t' _), .inr ⟨t, a, rfl⟩⟩

theorem X_for {target iter : Expr} {body : List Stmt} (hh : A.handled = none)
    (h : Wp prog w s₀ A VR (eval iter env) Γ fun x Γ₁ => ∃ n src at_ item, Over x Γ₁ n src at_ item ∧ TargetOk n at_ item target ∧ ∃ J : Nat → Led → Prop, J 0 Γ₁ ∧ (∀ i Γ₂, J i Γ₂ → src Γ₂) ∧
      (∀ I i Γ₂, i < n → J i Γ₂ → W1 prog w s₀ A UR (fun v => assign target env v) (item i) ((I, at_ (i + 1)) :: Γ₂) fun _ Γ₃ =>
        Wp prog w s₀ A FR (execs body env) Γ₃ (Turn (fun Γ₄ => ∃ Γ₅, Γ₄ = (I, at_ (i + 1)) :: Γ₅ ∧ J (i + 1) Γ₅) Q)) ∧
      (∀ Γ₂, J n Γ₂ → Q .next Γ₂))
    (hs : ∀ x, foldedSetIterable iter env x = pure x := by intro _; rfl) :
    Wp prog w s₀ A FR (exec (.For target iter body [] pos) env) Γ Q := fun s S => by
  refine wpAny_For (noE (h s S) fun x s₁ h₁ => ?_) hs
  obtain ⟨k₁, xv, Γ₁, r₁, S₁, n, src, at_, item, o, tok, J, hJ, hsrc, turn, done⟩ := h₁
  refine o.iter S₁ r₁ fun I s₂ k₂ S₂ => ?_
  have itr : Itr prog w s₀ A n src at_ item := o.itr hh
  refine codeAny_forLoop_any (fun k s' => TK s.heap s'.heap ∧ ∃ i Γ₂, i ≤ n ∧ k = n - i ∧ St prog w s₀ ((I, at_ i) :: Γ₂) s' ∧ J i Γ₂) ?_ n ⟨k₁.trans k₂, 0, Γ₁, Nat.zero_le _, rfl, S₂, hJ⟩
  rintro k s' ⟨kk, i, Γ₂, hi, rfl, S', j⟩
  by_cases hlt : i < n
  · refine itr.next I i Γ₂ s' _ _ hlt (hsrc _ _ j) S' fun v s₃ k₃ S₃ r₃ => ?_
    obtain ⟨t1, t2⟩ := tok.lets hlt r₃
    refine itr.lets I (i + 1) Γ₂ s₃ _ _ target v t1 S₃ t2 ?_
    refine noE (turn I i Γ₂ hlt j s₃ v S₃ r₃) fun _ s₄ h₄ => ?_
    obtain ⟨k₄, _, Γ₄, _, S₄, q₄⟩ := h₄
    refine noE (q₄ s₄ S₄) fun f s₅ h₅ => ?_
    obtain ⟨k₅, af, Γ₅, r₅, S₅, q₅⟩ := h₅
    have K := ((kk.trans k₃).trans k₄).trans k₅
    cases af with
    | next =>
      have r₅ : f = .next := r₅
      subst r₅
      obtain ⟨_, hs, Γ₆, rfl, j'⟩ := q₅
      exact ⟨n - (i + 1), by omega, K, i + 1, Γ₆, hlt, rfl, S₅.sublist hs, j'⟩
    | cont =>
      have r₅ : f = .cont := r₅
      subst r₅
      obtain ⟨_, hs, Γ₆, rfl, j'⟩ := q₅
      exact ⟨n - (i + 1), by omega, K, i + 1, Γ₆, hlt, rfl, S₅.sublist hs, j'⟩
    | brk =>
      have r₅ : f = .brk := r₅
      subst r₅
      exact ⟨K, .next, Γ₅, rfl, S₅, q₅⟩
    | ret a =>
      obtain ⟨v, rfl, r⟩ := r₅
      exact ⟨K, .ret a, Γ₅, ⟨v, rfl, r⟩, S₅, q₅⟩
  · obtain rfl : i = n := Nat.le_antisymm hi (Nat.not_lt.mp hlt)
    refine itr.stop I Γ₂ s' _ _ (hsrc _ _ j) S' fun s₃ k₃ S₃ => wpAny_execs_nil ?_
    exact ⟨kk.trans k₃, .next, Γ₂, rfl, S₃, done _ j⟩
end loops
end
end

section
open PySem PySem.W PySem.Calls PyProof.Rows
set_option maxRecDepth 100000
set_option linter.unusedVariables false
section
variable {prog : Program} {w : World} {s₀ s : Shared} {A : Around} {Γ Γ' : Led}

/-- the end of a def's body -/
def Back (Q : AV → Led → Prop) (f : AF) (Γ : Led) : Prop := ∃ v Γ', (f = .ret v ∨ (f = .next ∧ v = .none)) ∧ List.Sublist Γ' Γ ∧ Q v Γ'
theorem back_ret {Q : AV → Led → Prop} {v : AV} (Γ' : Led) (hs : List.Sublist Γ' Γ) (h : Q v Γ') : Back Q (.ret v) Γ := ⟨v, Γ', .inl rfl, hs, h⟩

theorem zip_lookup {h : Heap} : ∀ {names : List PySem.Str} {l : List AV} {vs : List Value}, VRs h l vs → l.length = names.length → names.Nodup → ∀ x av, (x, some av) ∈ names.zip (l.map some) → ∃ v, (names.zip vs).reverse.lookup x = some v ∧ VR h av v
  | [], _, _, _, _, _, x, av, hm => by simp at hm
  | n :: names, [], _, _, hl, _, _, _, _ => by simp at hl
  | n :: names, a :: l, vs, r, hl, nd, x, av, hm => by
    obtain ⟨v, vs, rfl, h1, h2⟩ := VRs_cons.mp r
    rw [List.nodup_cons] at nd
    have e : (List.zip (n :: names) (v :: vs)).reverse = (names.zip vs).reverse ++ [(n, v)] := by simp
    rw [e, List.lookup_append]
    have e2 : List.zip (n :: names) (List.map some (a :: l)) = (n, some a) :: names.zip (l.map some) := by simp
    rw [e2] at hm
    rcases List.mem_cons.mp hm with q | hm
    · cases q
      have : (names.zip vs).reverse.lookup n = none := by
        rw [List.lookup_eq_none_iff]
        intro p hp
        have := (List.of_mem_zip (a := p.1) (b := p.2) (List.mem_reverse.mp hp)).1
        simp only [bne_iff_ne, ne_eq]
        intro q; exact nd.1 (q ▸ this)
      rw [this]
      exact ⟨v, by simp, h1⟩
    · obtain ⟨u, h3, h4⟩ := zip_lookup h2 (by simpa using hl) nd.2 x av hm
      exact ⟨u, by rw [h3]; rfl, h4⟩

/-- a def of the text that keeps no cells -/
theorem K_def {K : Frag} {fa : Addr} {name qual : PySem.Str} {params : Arguments} {body : List Stmt} {scope : Scope} {dV kV doc pm cdv ct oc : Value} {an od : Option Addr} {osl : Array (Option Value)} {l : List AV} {Q : AV → Led → Prop}
    (X : K.In s₀.heap) (hlim : s₀.heap.NoLimit) (ho : K.lookup fa = some ⟨oc, od, .func (fnOf name qual params body scope dV kV doc pm an cdv ct), osl⟩) (hcd : codeIn K cdv qual = true) (hroom : A.depth < recursionLimit)
    (names more : List PySem.Str) (hlen : l.length = names.length)
    (hbind : ∀ vs, vs.length = names.length → bindArgs (fnOf name qual params body scope dV kV doc pm an cdv ct) ⟨vs, []⟩ = pure (names.zip vs))
    (hloc : ∀ x ∈ names, scope.names.lookup x = some .local) (hcell : ∀ x ∈ scope.names, x.2 ≠ .cell) (nd : (names ++ more).Nodup)
    (h : ∀ L, Wp prog w s₀ (A.deeper (envX qual scope L fa cdv [])) FR (execs body (envX qual scope L fa cdv [])) ((L, .ns (names.zip (l.map some) ++ more.map (·, none))) :: Γ) (Back Q))
    (hco : scope.isCoroutine = false) (hgen : scope.isGenerator = false) (hk : scope.kind = .function) :
    WL prog w s₀ A VR (fun vs => call (.ref fa) vs) l Γ Q := fun s vs S V => by
  have hvs : vs.length = names.length := V.length.trans hlen
  refine wpAny_call (codeAny_call_def (fd := fnOf name qual params body scope dV kV doc pm an cdv ct) (body := body) (binds := names.zip vs) hroom ((X.keeps S.keep) _ _ ho) rfl (hlim.keeps S.keep)
    (codeRec_of (X.keeps S.keep) hcd) rfl (BindsTo.of_eq (hbind vs hvs)) hcell (fun x hx => hloc _ (List.of_mem_zip hx).1) (fun h₁ hns hk₁ => ?_) hco hgen hk)
  have k : TK s.heap h₁ := fun b items t => t.keeps hk₁
  have hnew : ∀ p ∈ Γ, p.1 ≠ s.heap.objs.size := fun p hp => Nat.ne_of_lt (S.own p hp).lt
  have nd' := List.nodup_append.mp nd
  have S₁ : St prog w s₀ ((s.heap.objs.size, .ns (names.zip (l.map some) ++ more.map (·, none))) :: Γ) { s with heap := h₁, toks := s.toks + (names.zip vs).length } := by
    obtain ⟨_, S'⟩ := S.keepAll hk₁ (s.toks + (names.zip vs).length)
    refine ⟨S'.same, S'.keep, fun p hp => ?_, fun p hp => ?_, ?_⟩
    · rcases List.mem_cons.mp hp with rfl | hp
      · refine ⟨_, hns, ?_, fun x av hx => ?_⟩
        · have e : (List.zip names (l.map some) ++ more.map fun (x : PySem.Str) => (x, (none : Option AV))).map (fun p => p.1) = names ++ more := by
            rw [List.map_append, List.map_map, List.map_fst_zip (by simp [hlen])]
            congr 1
            exact (List.map_congr_left (fun _ _ => rfl)).trans (List.map_id more)
          rw [e]; exact nd
        · rcases List.mem_append.mp hx with hx | hx
          · obtain ⟨v, h1, h2⟩ := zip_lookup V hlen nd'.1 x av hx
            exact ⟨v, h1, h2.tk k⟩
          · obtain ⟨y, _, e⟩ := List.mem_map.mp hx
            cases e
      · exact S'.own p hp
    · rcases List.mem_cons.mp hp with rfl | hp
      · cases q : s₀.heap.get? s.heap.objs.size with
        | none => rfl
        | some o' => exact absurd (Heap.lt_size (S.keep _ _ q)) (Nat.lt_irrefl _)
      · exact S'.fresh p hp
    · rw [List.map_cons, List.nodup_cons]
      refine ⟨fun hm => ?_, S.nd⟩
      obtain ⟨p, hp, e⟩ := List.mem_map.mp hm
      exact hnew p hp e
  refine wpAny_mono (h s.heap.objs.size _ S₁) (fun f s' h' => ?_) fun _ _ e => e.elim
  obtain ⟨k', af, Γ₂, r, S₂, v, Γ₃, hv, hs, q⟩ := h'
  rcases hv with rfl | ⟨rfl, rfl⟩
  · obtain ⟨u, rfl, ru⟩ := r
    exact ⟨k.trans k', v, Γ₃, ru, S₂.sublist hs, q⟩
  · have r : f = .next := r
    subst r
    exact ⟨k.trans k', .none, Γ₃, VR_raw.mpr rfl, S₂.sublist hs, q⟩

/-- cells, the newest first -/
def cellLed (m : PySem.Str → Option AV) (cs : List (PySem.Str × Addr)) : Led := cs.map fun p => (p.2, AO.cell (m p.1))

theorem bindC_lookup (kindOf : PySem.Str → Option NameKind) : ∀ (binds : List (PySem.Str × Value)) (cm : PySem.Str → Option Value) (x : PySem.Str) (v : Value), (binds.map (·.1)).Nodup → (x, v) ∈ binds → kindOf x ≠ some .local → bindC kindOf binds cm x = some v
  | [], _, _, _, _, hm, _ => by cases hm
  | (n, u) :: r, cm, x, v, nd, hm, hk => by
    rw [List.map_cons, List.nodup_cons] at nd
    unfold bindC
    have rest : ∀ (r : List (PySem.Str × Value)) (cm : PySem.Str → Option Value), x ∉ r.map (·.1) → bindC kindOf r cm x = cm x := by
      intro r
      induction r with
      | nil => intro cm _; rfl
      | cons p r ih =>
        intro cm hx
        obtain ⟨n, u⟩ := p
        rw [List.map_cons, List.mem_cons, not_or] at hx
        unfold bindC
        rw [ih _ hx.2]
        split
        · rfl
        · show (if x = n then some u else cm x) = cm x
          rw [if_neg hx.1]
    rcases List.mem_cons.mp hm with e | hm
    · cases e
      rw [rest _ _ nd.1, if_neg hk]
      simp
    · exact bindC_lookup kindOf r _ x v nd.2 hm hk
theorem bindL_lookup (kindOf : PySem.Str → Option NameKind) : ∀ (binds : List (PySem.Str × Value)) (m : PySem.Str → Option Value) (x : PySem.Str) (v : Value), (binds.map (·.1)).Nodup → (x, v) ∈ binds → kindOf x = some .local → bindL kindOf binds m x = some v
  | [], _, _, _, _, hm, _ => by cases hm
  | (n, u) :: r, cm, x, v, nd, hm, hk => by
    rw [List.map_cons, List.nodup_cons] at nd
    unfold bindL
    have rest : ∀ (r : List (PySem.Str × Value)) (cm : PySem.Str → Option Value), x ∉ r.map (·.1) → bindL kindOf r cm x = cm x := by
      intro r
      induction r with
      | nil => intro cm _; rfl
      | cons p r ih =>
        intro cm hx
        obtain ⟨n, u⟩ := p
        rw [List.map_cons, List.mem_cons, not_or] at hx
        unfold bindL
        rw [ih _ hx.2]
        split
        · show (if x = n then some u else cm x) = cm x
          rw [if_neg hx.1]
        · rfl
    rcases List.mem_cons.mp hm with e | hm
    · cases e
      rw [rest _ _ nd.1, if_pos hk]
      simp
    · exact bindL_lookup kindOf r _ x v nd.2 hm hk

theorem VRs.zip {h : Heap} : ∀ {names : List PySem.Str} {l : List AV} {vs : List Value}, VRs h l vs → l.length = names.length → ∀ x av, (x, av) ∈ names.zip l → ∃ v, (x, v) ∈ names.zip vs ∧ VR h av v
  | [], _, _, _, _, x, av, hm => by simp at hm
  | n :: names, [], _, _, hl, _, _, _ => by simp at hl
  | n :: names, a :: l, vs, r, hl, x, av, hm => by
    obtain ⟨v, vs, rfl, h1, h2⟩ := VRs_cons.mp r
    rw [List.zip_cons_cons] at hm ⊢
    rcases List.mem_cons.mp hm with e | hm
    · cases e; exact ⟨v, .head _, h1⟩
    · obtain ⟨u, h3, h4⟩ := VRs.zip h2 (by simpa using hl) x av hm
      exact ⟨u, .tail _ h3, h4⟩

/-- a def of the text that keeps cells: its plain locals ρ, its cells γ -/
theorem K_defC {K : Frag} {fa : Addr} {name qual : PySem.Str} {params : Arguments} {body : List Stmt} {scope : Scope} {dV kV doc pm cdv ct oc : Value} {an od : Option Addr} {osl : Array (Option Value)} {l : List AV} {Q : AV → Led → Prop}
    (X : K.In s₀.heap) (hlim : s₀.heap.NoLimit) (ho : K.lookup fa = some ⟨oc, od, .func (fnOf name qual params body scope dV kV doc pm an cdv ct), osl⟩) (hcd : codeIn K cdv qual = true) (hroom : A.depth < recursionLimit)
    (names : List PySem.Str) (ρ : List (PySem.Str × Option AV)) (γ : PySem.Str → Option AV) (hlen : l.length = names.length)
    (hbind : ∀ vs, vs.length = names.length → bindArgs (fnOf name qual params body scope dV kV doc pm an cdv ct) ⟨vs, []⟩ = pure (names.zip vs))
    (hkinds : ∀ x ∈ names, scope.names.lookup x = some .local ∨ (scope.names.lookup x = some .cell ∧ ∀ n, ((cellsFrom n scope.names []).lookup x).isSome = true)) (ndn : names.Nodup) (ndρ : (ρ.map (·.1)).Nodup)
    (hρ : ∀ x av, (x, some av) ∈ ρ → (x, av) ∈ names.zip l ∧ scope.names.lookup x = some .local)
    (hγ : ∀ x av, γ x = some av → (x, av) ∈ names.zip l ∧ scope.names.lookup x = some .cell)
    (ndc : ∀ n, ((cellsFrom n scope.names []).map (·.1)).Nodup)
    (h : ∀ L, Wp prog w s₀ (A.deeper (envX qual scope L fa cdv (cellsFrom (L + 1) scope.names []))) FR (execs body (envX qual scope L fa cdv (cellsFrom (L + 1) scope.names [])))
      ((L, .ns ρ) :: cellLed γ (cellsFrom (L + 1) scope.names []) ++ Γ) (Back Q))
    (hco : scope.isCoroutine = false) (hgen : scope.isGenerator = false) (hk : scope.kind = .function) :
    WL prog w s₀ A VR (fun vs => call (.ref fa) vs) l Γ Q := fun s vs S V => by
  have hvs : vs.length = names.length := V.length.trans hlen
  have ndz : ((names.zip vs).map (·.1)).Nodup := by rw [List.map_fst_zip (by omega)]; exact ndn
  refine wpAny_call (codeAny_call_cells (fd := fnOf name qual params body scope dV kV doc pm an cdv ct) (body := body) (binds := names.zip vs) hroom ((X.keeps S.keep) _ _ ho) rfl (hlim.keeps S.keep)
    (codeRec_of (X.keeps S.keep) hcd) rfl (hbind vs hvs) rfl (fun x hx => (hkinds _ (List.of_mem_zip hx).1).imp id fun q => ⟨q.1, q.2 _⟩) (fun s₁ IC => ?_) hco hgen hk)
  obtain ⟨h₁, tk₁, rfl, hk₁⟩ := IC.done
  have k : TK s.heap h₁ := fun b items t => t.keeps hk₁
  have hC : (callEnvC (fnOf name qual params body scope dV kV doc pm an cdv ct) s.heap.objs.size fa).cells = cellsFrom (s.heap.objs.size + 1) scope.names [] := rfl
  have cell : ∀ n c, (n, c) ∈ cellsFrom (s.heap.objs.size + 1) scope.names [] → h₁.IsCell c (bindC (callEnvC (fnOf name qual params body scope dV kV doc pm an cdv ct) s.heap.objs.size fa).kindOf (names.zip vs) (fun _ => none) n) := fun n c hm => by
    refine IC.cell n c ?_
    rw [hC]
    have nd := ndc (s.heap.objs.size + 1)
    revert hm nd
    generalize cellsFrom (s.heap.objs.size + 1) scope.names [] = cs
    intro hm nd
    exact lookup_of_mem_nodup nd hm
  have S₁ : St prog w s₀ ((s.heap.objs.size, .ns ρ) :: cellLed γ (cellsFrom (s.heap.objs.size + 1) scope.names []) ++ Γ) { s with heap := h₁, toks := tk₁ } := by
    obtain ⟨_, S'⟩ := S.keepAll hk₁ tk₁
    have old : ∀ a, s.heap.objs.size ≤ a → s₀.heap.get? a = none := fun a ha => by
      cases q : s₀.heap.get? a with
      | none => rfl
      | some o' => exact absurd (Heap.lt_size (S.keep _ _ q)) (Nat.not_lt.mpr ha)
    refine ⟨S'.same, S'.keep, fun p hp => ?_, fun p hp => ?_, ?_⟩
    · rw [List.cons_append] at hp
      rcases List.mem_cons.mp hp with rfl | hp
      · refine ⟨_, IC.toInCall.ns, ndρ, fun x av hx => ?_⟩
        obtain ⟨hz, hl⟩ := hρ x av hx
        obtain ⟨v, hv, rv⟩ := VRs.zip V hlen x av hz
        exact ⟨v, bindL_lookup _ _ _ _ _ ndz hv hl, rv.tk k⟩
      · rcases List.mem_append.mp hp with hp | hp
        · obtain ⟨q, hq, rfl⟩ := List.mem_map.mp hp
          refine ⟨_, cell q.1 q.2 hq, fun av e => ?_⟩
          obtain ⟨hz, hl⟩ := hγ q.1 av e
          obtain ⟨v, hv, rv⟩ := VRs.zip V hlen q.1 av hz
          refine ⟨v, bindC_lookup _ _ _ _ _ ndz hv ?_, rv.tk k⟩
          show scope.names.lookup q.1 ≠ some .local
          rw [hl]; decide
        · exact S'.own p hp
    · rw [List.cons_append] at hp
      rcases List.mem_cons.mp hp with rfl | hp
      · exact old _ (Nat.le_refl _)
      · rcases List.mem_append.mp hp with hp | hp
        · obtain ⟨q, hq, rfl⟩ := List.mem_map.mp hp
          have : s.heap.objs.size < q.2 := IC.above q.1 q.2 hq
          exact old _ (Nat.le_of_lt this)
        · exact S'.fresh p hp
    · rw [List.cons_append, List.map_cons, List.nodup_cons, List.map_append, List.nodup_append]
      refine ⟨fun hm => ?_, ?_, S.nd, fun a ha b hb e => ?_⟩
      · rcases List.mem_append.mp hm with hm | hm
        · obtain ⟨p, hp, e⟩ := List.mem_map.mp hm
          obtain ⟨q, hq, rfl⟩ := List.mem_map.mp hp
          have : s.heap.objs.size < q.2 := IC.above q.1 q.2 hq
          exact Nat.ne_of_gt this e
        · obtain ⟨p, hp, e⟩ := List.mem_map.mp hm
          exact Nat.ne_of_lt (S.own p hp).lt e
      · have ap := IC.apart
        rw [hC] at ap
        unfold cellLed
        rw [List.map_map]
        show (List.map (fun (p : PySem.Str × Addr) => p.2) _).Nodup
        rw [List.nodup_iff_pairwise_ne, List.pairwise_map]
        exact ap
      · obtain ⟨p, hp, rfl⟩ := List.mem_map.mp ha
        obtain ⟨q, hq, rfl⟩ := List.mem_map.mp hp
        obtain ⟨p', hp', e'⟩ := List.mem_map.mp hb
        have h1 : s.heap.objs.size < q.2 := IC.above q.1 q.2 hq
        have h2 := (S.own p' hp').lt
        rw [e', ← e] at h2
        exact Nat.lt_asymm h1 h2
  refine wpAny_mono (h s.heap.objs.size _ S₁) (fun f s' h' => ?_) fun _ _ e => e.elim
  obtain ⟨k', af, Γ₂, r, S₂, v, Γ₃, hv, hs, q⟩ := h'
  rcases hv with rfl | ⟨rfl, rfl⟩
  · obtain ⟨u, rfl, ru⟩ := r
    exact ⟨k.trans k', v, Γ₃, ru, S₂.sublist hs, q⟩
  · have r : f = .next := r
    subst r
    exact ⟨k.trans k', .none, Γ₃, VR_raw.mpr rfl, S₂.sublist hs, q⟩
end
end

section
open PySem PySem.W PySem.Calls PyProof.Rows
set_option maxRecDepth 100000
set_option linter.unusedVariables false
section
variable {prog : Program} {w : World} {s₀ s : Shared} {A : Around} {Γ Γ' : Led}

theorem compLoop_all {elt target iter : Expr} {ifs : List Expr} {scope : Scope} {pos : Pos} {it acc : Value} {env : Env} {R : Result → Shared → Prop} (I : Nat → Shared → Prop)
    (turn : ∀ n s, I n s → wpAny (model prog w) A (pyNext it) (fun r s₁ => match r with
      | none => R (.ok .next) s₁
      | some v => wpAny (model prog w) A (letOwnedTupleGo target it v) (fun _ s₁' => wpAny (model prog w) A (assign target env v) (fun _ s₂ =>
          wpAny (model prog w) A (forIn ifs true fun c r => if r = true then do let ok ← isTrue c env (eval c env); pure (ForInStep.yield ok) else pure (ForInStep.yield r)) (fun ok s₃ =>
            if ok = true then wpAny (model prog w) A (eval elt env) (fun x s₄ =>
              wpAny (model prog w) A (call (.builtin "list.append") [acc, x]) (fun _ s₅ => ∃ m, m < n ∧ I m s₅) (notedBy (model prog w) A env fun e s' => R (.error e) s') s₄) (notedBy (model prog w) A env fun e s' => R (.error e) s') s₃
            else ∃ m, m < n ∧ I m s₃) (notedBy (model prog w) A env fun e s' => R (.error e) s') s₂) (notedBy (model prog w) A env fun e s' => R (.error e) s') s₁')
          (notedBy (model prog w) A env fun e s' => R (.error e) s') s₁) (notedBy (model prog w) A env fun e s' => R (.error e) s') s)
    (n : Nat) (h : I n s) : codeAny (model prog w) A (.compLoop (.ListComp elt [⟨target, iter, ifs, 0⟩] scope pos) 0 it acc env) R s := by
  refine codeAny_loop rfl I (fun n s hI => ?_) n h
  show wpAny _ A ((compTurn (.ListComp elt [⟨target, iter, ifs, 0⟩] scope pos) 0 it acc env).onRaise (fun x => do noteFrame x env; theTreesLotGoes x)) _ _ s
  refine wpAny_noted ?_
  rw [compTurn_list]
  refine wpAny_bind (wpAny_standAt (wpAny_bind (wpAny_mono (turn n s hI) (fun r s₁ h₁ => ?_) fun _ _ h' => h')))
  cases r with
  | none => exact wpAny_pure h₁
  | some v =>
    refine wpAny_bind (wpAny_mono h₁ (fun _ s₁' h₁' => ?_) fun _ _ h' => h')
    refine wpAny_bind (wpAny_mono h₁' (fun _ s₂ h₂ => wpAny_bind (wpAny_mono h₂ (fun ok s₃ h₃ => ?_) fun _ _ h' => h')) fun _ _ h' => h')
    cases ok with
    | false => exact wpAny_pure ⟨rfl, h₃⟩
    | true => exact wpAny_bind (wpAny_bind (wpAny_mono h₃ (fun x s₄ h₄ => wpAny_bind (wpAny_mono h₄ (fun _ s₅ h₅ => wpAny_pure (wpAny_pure ⟨rfl, h₅⟩)) fun _ _ h' => h')) fun _ _ h' => h'))

def IfsOk (prog : Program) (w : World) (s₀ : Shared) (A : Around) (ifs : List Expr) (env : Env) (Γ : Led) (K : Bool → Led → Prop) : Prop := match ifs with
  | [] => K true Γ
  | [c] => Wp prog w s₀ A BR (isTrue c env (eval c env)) Γ K
  | _ => False
theorem IfsOk.run {ifs : List Expr} {env : Env} {K : Bool → Led → Prop} {E : Value → Shared → Prop} {Q : Bool → Shared → Prop} (h : IfsOk prog w s₀ A ifs env Γ K) (S : St prog w s₀ Γ s)
    (q : ∀ b s', Post prog w s₀ BR K s b s' → Q b s') :
    wpAny (model prog w) A (forIn ifs true fun c r => if r = true then do let ok ← isTrue c env (eval c env); pure (ForInStep.yield ok) else pure (ForInStep.yield r)) Q E s := by
  match ifs, h with
  | [], h => exact wpAny_tests_nil (q _ _ ⟨TK.refl _, true, Γ, rfl, S, h⟩)
  | [c], h => exact wpAny_tests_one (noE (h s S) q)

/-- a namespace is forgotten -/
theorem St.blank {Γ₁ Γ₂ : Led} {C : Addr} {ρ : List (PySem.Str × Option AV)} {xs : List PySem.Str} (S : St prog w s₀ (Γ₁ ++ (C, .ns ρ) :: Γ₂) s) (nd : xs.Nodup) : St prog w s₀ (Γ₁ ++ (C, .ns (xs.map (·, none))) :: Γ₂) s := by
  refine ⟨S.same, S.keep, fun p hp => ?_, fun p hp => ?_, ?_⟩
  · rcases List.mem_append.mp hp with hp | hp
    · exact S.own p (List.mem_append_left _ hp)
    · rcases List.mem_cons.mp hp with rfl | hp
      · obtain ⟨m, hm, _, _⟩ := S.own (C, .ns ρ) (List.mem_append_right _ (.head _))
        refine ⟨m, hm, ?_, fun x av hx => ?_⟩
        · rw [List.map_map]; exact (show (List.map (fun (x : PySem.Str) => x) xs).Nodup from by rw [List.map_id']; exact nd)
        · obtain ⟨y, _, e⟩ := List.mem_map.mp hx; cases e
      · exact S.own p (List.mem_append_right _ (.tail _ hp))
  · rcases List.mem_append.mp hp with hp | hp
    · exact S.fresh p (List.mem_append_left _ hp)
    · rcases List.mem_cons.mp hp with rfl | hp
      · exact S.fresh (C, .ns ρ) (List.mem_append_right _ (.head _))
      · exact S.fresh p (List.mem_append_right _ (.tail _ hp))
  · have := S.nd
    rwa [List.map_append, List.map_cons] at this ⊢

/-- x is put onto a list -/
theorem St.append {D : Addr} {ys : List AV} {y : AV} {v : Value} {E : Value → Shared → Prop} {Q : Value → Shared → Prop} (S : St prog w s₀ Γ s) (u : Upd D (.lst ys) (.lst (ys ++ [y])) Γ Γ') (r : VR s.heap y v) (hz : ys.length ≤ sizeLine)
    (h : ∀ s', TK s.heap s'.heap → St prog w s₀ Γ' s' → Q .none s') : wpAny (model prog w) A (call (.builtin "list.append") [.ref D, v]) Q E s := by
  obtain ⟨vs, ⟨n, ho⟩, rs⟩ := S.own _ u.mem
  refine append_at ho (fun h' hs hD => ?_) (by have := rs.length; simp only [List.size_toArray]; omega)
  obtain ⟨k, S'⟩ := S.ext u hs.extBut s.toks fun k => ⟨vs ++ [v], ⟨n + 1, by rw [hD]; simp⟩, (rs.tk k).append (VRs.one (r.tk k))⟩
  exact h _ k S'

abbrev blank (xs : List PySem.Str) : AO := .ns (xs.map fun x => (x, none))
theorem comp_core {env : Env} {elt target iter : Expr} {ifs : List Expr} {scope : Scope} {cl : List (PySem.Str × Addr)} {pos : Pos} {n : Nat} {src : Led → Prop} {at_ : Nat → AO} {item : Nat → AV} {I : Addr} {Γ₁ : Led} {s₂ : Shared} {E : Value → Shared → Prop}
    (itr : Itr prog w s₀ A n src at_ item) (tok : TargetOk n at_ item target) (hz : n ≤ sizeLine) (hcell : ∀ y ∈ scope.names, y.2 ≠ .cell) (hkind : scope.kind = .function) (xs : List PySem.Str) (hxs : xs.Nodup)
    (J : Nat → List AV → Led → Prop) (hJ : J 0 [] Γ₁) (hsrc : ∀ i ys Γ₂, J i ys Γ₂ → src Γ₂) (hlen : ∀ i ys Γ₂, J i ys Γ₂ → ys.length ≤ i)
    (turn : ∀ C D I i ys Γ₂, i < n → J i ys Γ₂ → W1 prog w s₀ A UR (fun v => assign target (compEnvC scope cl C env) v) (item i) ((I, at_ (i + 1)) :: (C, blank xs) :: (D, .lst ys) :: Γ₂) fun _ Γ₃ =>
      IfsOk prog w s₀ A ifs (compEnvC scope cl C env) Γ₃ fun b Γ₄ => if b then Wp prog w s₀ A VR (eval elt (compEnvC scope cl C env)) Γ₄ (fun y Γ₅ => ∃ ρ Γ₆, List.Sublist ((I, at_ (i + 1)) :: (C, .ns ρ) :: (D, .lst ys) :: Γ₆) Γ₅ ∧ J (i + 1) (ys ++ [y]) Γ₆)
        else ∃ ρ Γ₆, List.Sublist ((I, at_ (i + 1)) :: (C, .ns ρ) :: (D, .lst ys) :: Γ₆) Γ₄ ∧ J (i + 1) ys Γ₆)
    {RR : Value → Addr → Result → Shared → Prop} (S₂ : St prog w s₀ ((I, at_ 0) :: Γ₁) s₂)
    (done : ∀ C D s' ys Γ₂, TK s₂.heap s'.heap → St prog w s₀ ((C, blank xs) :: (D, .lst ys) :: Γ₂) s' → J n ys Γ₂ → RR (.ref D) C (.ok .next) s') :
    wpAny (model prog w) A (newList []) (fun acc s₃ => wpAny (model prog w) A (newFunctionEnv scope env.globals cl [] env.qual none .none (some env)) (fun cenv s₄ =>
      codeAny (model prog w) A (.compStart (.ListComp elt [⟨target, iter, ifs, 0⟩] scope pos) 0 (.ref I) acc { cenv with scope := relabel scope env }) (RR acc cenv.locals) s₄) E s₃) E s₂ := by
  refine wpAny_newObj_type (wpAny_newFunctionEnv hcell (by intro y hy; simp at hy) (fun h₁ hns₁ hsb₁ => ?_) hkind)
  have S₃ := S₂.push (y := .lst []) { cls := .type "list", data := .seq ([] : List Value).toArray } s₂.toks ⟨[], ⟨0, Heap.get?_push_size _ rfl⟩, VRs_nil.mpr rfl⟩
  have k₃ : TK s₂.heap (s₂.heap.push { cls := .type "list", data := .seq ([] : List Value).toArray }) := TK.push _ _
  dsimp only at hns₁ hsb₁ ⊢
  generalize hH2 : s₂.heap.push { cls := .type "list", dict := none, data := .seq ([] : List Value).toArray } = H2 at hns₁ hsb₁ S₃ k₃ ⊢
  have hk₁ : ∀ b o, H2.get? b = some o → h₁.get? b = some o := fun b o e => hsb₁.extBut b o (Nat.ne_of_lt (Heap.lt_size e)) (Heap.get?_push_of_some _ e)
  obtain ⟨k₄, S₄⟩ := S₃.keepAll hk₁ (s₂.toks + ([] : List (PySem.Str × Value)).length)
  have S₅ : St prog w s₀ ((I, at_ 0) :: (H2.objs.size, blank xs) :: (s₂.heap.objs.size, .lst []) :: Γ₁) { s₂ with heap := h₁, toks := s₂.toks + ([] : List (PySem.Str × Value)).length } := by
    have nC : ∀ p ∈ (s₂.heap.objs.size, AO.lst []) :: (I, at_ 0) :: Γ₁, p.1 ≠ H2.objs.size := fun p hp => Nat.ne_of_lt (S₃.own p hp).lt
    refine ⟨S₄.same, S₄.keep, fun p hp => ?_, fun p hp => ?_, ?_⟩
    · rcases List.mem_cons.mp hp with rfl | hp
      · exact S₄.own _ (.tail _ (.head _))
      · rcases List.mem_cons.mp hp with rfl | hp
        · refine ⟨_, hns₁, ?_, fun x av hx => ?_⟩
          · rw [List.map_map]; exact (show (List.map (fun (x : PySem.Str) => x) xs).Nodup from by rw [List.map_id']; exact hxs)
          · obtain ⟨y, _, e⟩ := List.mem_map.mp hx; cases e
        · rcases List.mem_cons.mp hp with rfl | hp
          · exact S₄.own _ (.head _)
          · exact S₄.own _ (.tail _ (.tail _ hp))
    · rcases List.mem_cons.mp hp with rfl | hp
      · exact S₄.fresh _ (.tail _ (.head _))
      · rcases List.mem_cons.mp hp with rfl | hp
        · cases q : s₀.heap.get? H2.objs.size with
          | none => rfl
          | some o' => exact absurd (Heap.lt_size (S₃.keep _ _ q)) (Nat.lt_irrefl _)
        · rcases List.mem_cons.mp hp with rfl | hp
          · exact S₄.fresh _ (.head _)
          · exact S₄.fresh _ (.tail _ (.tail _ hp))
    · have nd := S₄.nd
      simp only [List.map_cons, List.nodup_cons, List.mem_cons, not_or] at nd ⊢
      refine ⟨⟨nC _ (.tail _ (.head _)), fun e => nd.1.1 e.symm, nd.2.1⟩, ⟨fun e => nC _ (.head _) e.symm, fun hm => ?_⟩, nd.1.2, nd.2.2⟩
      obtain ⟨p, hp, e⟩ := List.mem_map.mp hm
      exact nC p (.tail _ (.tail _ hp)) e
  have k₅ : TK s₂.heap h₁ := k₃.trans k₄
  have loop : ∀ s₃ : Shared, s₃ = { s₂ with heap := h₁, toks := s₂.toks + ([] : List (PySem.Str × Value)).length } →
      codeAny (model prog w) A (.compLoop (.ListComp elt [⟨target, iter, ifs, 0⟩] scope pos) 0 (.ref I) (.ref s₂.heap.objs.size) (compEnvC scope cl H2.objs.size env))
        (RR (.ref s₂.heap.objs.size) H2.objs.size) s₃ := by
    rintro s₃ rfl
    refine compLoop_all (fun k s' => TK s₂.heap s'.heap ∧ ∃ i ys Γ₂, i ≤ n ∧ k = n - i ∧ St prog w s₀ ((I, at_ i) :: (H2.objs.size, blank xs) :: (s₂.heap.objs.size, .lst ys) :: Γ₂) s' ∧ J i ys Γ₂) ?_ n ⟨k₅, 0, [], Γ₁, Nat.zero_le _, rfl, S₅, hJ⟩
    rintro k s' ⟨kk, i, ys, Γ₂, hi, rfl, S', j⟩
    by_cases hlt : i < n
    · refine itr.next I i _ s' _ _ hlt (itr.up _ _ (itr.up _ _ (hsrc _ _ _ j))) S' fun v s₃ k₃ S₃ r₃ => ?_
      obtain ⟨t1, t2⟩ := tok.lets hlt r₃
      refine itr.lets I (i + 1) _ s₃ _ _ target v t1 S₃ t2 ?_
      refine noE (turn _ _ I i ys Γ₂ hlt j s₃ v S₃ r₃) fun _ s₄ h₄ => ?_
      obtain ⟨k₄, _, Γ₄, _, S₄, q₄⟩ := h₄
      refine q₄.run S₄ fun b s₅ h₅ => ?_
      obtain ⟨k₅, b', Γ₅, r₅, S₅, q₅⟩ := h₅
      have r₅ : b = b' := r₅
      subst r₅
      have K := ((kk.trans k₃).trans k₄).trans k₅
      cases b with
      | false =>
        obtain ⟨ρ, Γ₆, hs, j'⟩ := q₅
        have S₆ := (S₅.sublist hs).blank (Γ₁ := [(I, at_ (i + 1))]) hxs
        exact ⟨n - (i + 1), by omega, K, i + 1, ys, Γ₆, hlt, rfl, S₆, j'⟩
      | true =>
        refine noE (q₅ s₅ S₅) fun y s₆ h₆ => ?_
        obtain ⟨k₆, av, Γ₆, r₆, S₆, ρ, Γ₇, hs, j'⟩ := h₆
        have S₇ := (S₆.sublist hs).blank (Γ₁ := [(I, at_ (i + 1))]) hxs
        refine S₇.append (.tail (.tail .head)) r₆ (Nat.le_trans (hlen _ _ _ j) (Nat.le_trans hi hz)) fun s₈ k₈ S₈ => ?_
        exact ⟨n - (i + 1), by omega, (K.trans k₆).trans k₈, i + 1, ys ++ [av], Γ₇, hlt, rfl, S₈, j'⟩
    · obtain rfl : i = n := Nat.le_antisymm hi (Nat.not_lt.mp hlt)
      refine itr.stop I _ s' _ _ (itr.up _ _ (itr.up _ _ (hsrc _ _ _ j))) S' fun s₃ k₃ S₃ => ?_
      exact done _ _ _ _ _ (kk.trans k₃) S₃ j
  exact codeAny_compStart_list (loop _ rfl) (itr.self I 0 _ _ _ _ S₅ (loop _ rfl))

/-- what a comprehension goes over, and how its turns go -/
def CompOk (prog : Program) (w : World) (s₀ : Shared) (A : Around) (env : Env) (elt target : Expr) (ifs : List Expr) (scope : Scope) (cl : List (PySem.Str × Addr)) (xs : List PySem.Str) (Fin : List AV → Led → Prop) (x : AV) (Γ₁ : Led) : Prop :=
  ∃ n src at_ item, Over x Γ₁ n src at_ item ∧ TargetOk n at_ item target ∧ n ≤ sizeLine ∧ ∃ J : Nat → List AV → Led → Prop, J 0 [] Γ₁ ∧ (∀ i ys Γ₂, J i ys Γ₂ → src Γ₂) ∧ (∀ i ys Γ₂, J i ys Γ₂ → ys.length ≤ i) ∧
    (∀ C D I i ys Γ₂, i < n → J i ys Γ₂ → W1 prog w s₀ A UR (fun v => assign target (compEnvC scope cl C env) v) (item i) ((I, at_ (i + 1)) :: (C, blank xs) :: (D, .lst ys) :: Γ₂) fun _ Γ₃ =>
      IfsOk prog w s₀ A ifs (compEnvC scope cl C env) Γ₃ fun b Γ₄ => if b then Wp prog w s₀ A VR (eval elt (compEnvC scope cl C env)) Γ₄ (fun y Γ₅ => ∃ ρ Γ₆, List.Sublist ((I, at_ (i + 1)) :: (C, .ns ρ) :: (D, .lst ys) :: Γ₆) Γ₅ ∧ J (i + 1) (ys ++ [y]) Γ₆)
        else ∃ ρ Γ₆, List.Sublist ((I, at_ (i + 1)) :: (C, .ns ρ) :: (D, .lst ys) :: Γ₆) Γ₄ ∧ J (i + 1) ys Γ₆) ∧
    (∀ ys Γ₂, J n ys Γ₂ → Fin ys Γ₂)

theorem E_comp {env : Env} {elt target iter : Expr} {ifs : List Expr} {scope : Scope} {cl : List (PySem.Str × Addr)} {pos : Pos} {Q : AV → Led → Prop} (hh : A.handled = none) (xs : List PySem.Str) (hxs : xs.Nodup)
    (hclos : closureFor scope env = pure cl) (hcell : ∀ y ∈ scope.names, y.2 ≠ .cell) (hkind : scope.kind = .function) (hnames : ∀ y ∈ scope.names, y.2 = .local → scope.names.lookup y.1 = some .local)
    (h : Wp prog w s₀ A VR (eval iter env) Γ (CompOk prog w s₀ A env elt target ifs scope cl xs fun ys Γ₂ => ∀ D, Q (.ref D) ((D, .lst ys) :: Γ₂)))
    (hs : ∀ x, foldedSetIterable iter env x = pure x := by intro _; rfl) :
    Wp prog w s₀ A VR (eval (.ListComp elt [⟨target, iter, ifs, 0⟩] scope pos) env) Γ Q := fun s S => by
  rw [eval_ListComp]
  refine wpAny_comprehension_free (use := none) rfl hs hclos hkind hnames (noE (h s S) fun xv s₁ h₁ => ?_)
  obtain ⟨k₁, x, Γ₁, r₁, S₁, n, src, at_, item, o, tok, hz, J, hJ, hsrc, hlen, turn, fin⟩ := h₁
  refine o.iter S₁ r₁ fun I s₂ k₂ S₂ => ?_
  refine comp_core (o.itr hh) tok hz hcell hkind xs hxs J hJ hsrc hlen turn S₂ fun C D s' ys Γ₂ k' S' j => ?_
  obtain ⟨m, hn, _⟩ := S'.own _ (.head _)
  refine ⟨m, hn, fun h' hs' => ?_⟩
  obtain ⟨k'', S''⟩ := S'.del .head hs'.extBut s'.toks
  exact ⟨((k₁.trans k₂).trans k').trans k'', .ref D, _, VR_raw.mpr rfl, S'', fin _ _ j D⟩

theorem X_assignComp {env : Env} {elt target iter : Expr} {ifs : List Expr} {scope : Scope} {cl : List (PySem.Str × Addr)} {pos spos py : Pos} {y : PySem.Str} {Q : AF → Led → Prop} (hh : A.handled = none) (xs : List PySem.Str) (hxs : xs.Nodup)
    (hsw : swapsWith (.ListComp elt [⟨target, iter, ifs, 0⟩] scope pos) (some (.Name y py)) spos.line env = pure true)
    (hclos : closureFor scope env = pure cl) (hcell : ∀ y ∈ scope.names, y.2 ≠ .cell) (hkind : scope.kind = .function) (hnames : ∀ y ∈ scope.names, y.2 = .local → scope.names.lookup y.1 = some .local)
    (h : Wp prog w s₀ A VR (eval iter env) Γ (CompOk prog w s₀ A env elt target ifs scope cl xs fun ys Γ₂ => ∀ C D,
      W1 prog w s₀ A UR (fun v => storeName env y v) (.ref D) ((C, blank xs) :: (D, .lst ys) :: Γ₂) fun _ Γ₃ => ∃ ρ Γ₄, Γ₃ = (C, .ns ρ) :: Γ₄ ∧ Q .next Γ₄))
    (hs : ∀ x, foldedSetIterable iter env x = pure x := by intro _; rfl) :
    Wp prog w s₀ A FR (exec (.Assign [.Name y py] (.ListComp elt [⟨target, iter, ifs, 0⟩] scope pos) spos) env) Γ Q := fun s S => by
  rw [exec_Assign_Name_used _ _ _ _ hsw]
  refine wpAny_bind (wpAny_standAt (wpAny_bind ?_))
  show wpAny _ A (do let _ ← comprehension (.ListComp elt [⟨target, iter, ifs, 0⟩] scope pos) scope env _ (newList []) false (eval iter env) (some (assign (.Name y py) env))) _ _ s
  refine wpAny_bind (wpAny_mono (wpAny_comprehension_free (use := some (assign (.Name y py) env)) (Q := fun _ s' => Post prog w s₀ FR Q s Flow.next s') rfl hs hclos hkind hnames
    (noE (h s S) fun xv s₁ h₁ => ?_)) (fun _ s' hq => wpAny_pure (wpAny_pure hq)) fun _ _ e => e)
  obtain ⟨k₁, x, Γ₁, r₁, S₁, n, src, at_, item, o, tok, hz, J, hJ, hsrc, hlen, turn, fin⟩ := h₁
  refine o.iter S₁ r₁ fun I s₂ k₂ S₂ => ?_
  refine comp_core (o.itr hh) tok hz hcell hkind xs hxs J hJ hsrc hlen turn S₂ fun C D s' ys Γ₂ k' S' j => ?_
  show wpAny _ A (assign (.Name y py) env (.ref D)) _ _ _
  refine wpAny_assign_Name (noE (fin ys Γ₂ j C D s' (.ref D) S' (VR_raw.mpr rfl)) fun _ s₄ h₄ => ?_)
  obtain ⟨k₄, _, _, _, S₄, ρ, Γ₄, rfl, q⟩ := h₄
  obtain ⟨m, hn, _⟩ := S₄.own _ (.head _)
  refine ⟨m, hn, fun h' hs' => ?_⟩
  obtain ⟨k'', S''⟩ := S₄.del .head hs'.extBut s₄.toks
  exact ⟨(((k₁.trans k₂).trans k').trans k₄).trans k'', .next, Γ₄, rfl, S'', q⟩
end
end

section
open PySem PySem.W PySem.Calls PyProof.Rows
set_option maxRecDepth 100000
set_option linter.unusedVariables false
section
variable {prog : Program} {w : World} {s₀ s : Shared} {A : Around} {Γ Γ' : Led}

-- // and range
theorem O_fdiv {a b : Int} {Q : AV → Led → Prop} (hb : b ≠ 0) (hs : b.natAbs < 1073741824) (h : Q (.int (a.fdiv b)) Γ) : W2 prog w s₀ A VR (binaryOp .FloorDiv) (.int a) (.int b) Γ Q := fun s v u S r q => by
  obtain ⟨t, rfl⟩ := VR_int.mp r; obtain ⟨t', rfl⟩ := VR_int.mp q
  exact PyProof.Rows.floordiv_int hb (Post.tok S (VR_int.mpr ⟨_, rfl⟩) h _) (.inl (PyProof.noPylong_small hs))
theorem B_range {n : Int} {Q : AV → Led → Prop} (h : ∀ a, Q (.ref a) ((a, .rng n) :: Γ)) : WL prog w s₀ A VR (fun vs => call (.type "range") vs) [.int n] Γ Q := fun s vs S V => by
  obtain ⟨v, r, rfl, h1, h2⟩ := VRs_cons.mp V; cases VRs_nil.mp h2
  obtain ⟨t, rfl⟩ := VR_int.mp h1
  refine call_range_1 ?_
  refine ⟨TK.push _ _, .ref _, _, VR_raw.mpr rfl, S.push (y := .rng n) _ (s.toks + 1 + 1) ⟨s.toks, t, s.toks + 1, Heap.get?_push_size _ rfl⟩, h _⟩

-- bytes(b)
theorem bytes_get_bytes : typeLookup (.type "bytes") "__bytes__" = pure (some (.builtin "bytes.__bytes__")) := by rw [typeLookup_type, builtinLookup_eq_fast]; kernel_rfl
theorem meets_bytes_new (b : Array UInt8) (t : Tok) : Meets (Builtin.«bytes.__new__» ⟨[.type "bytes", .bytes b t], []⟩) (fun _ R s => R (.ok (.ret (.bytes b t))) s) :=
  .of_wp fun prog w A R s h => by
    unfold Builtin.«bytes.__new__»
    refine wpAny_bind (wpAny_of_eq (a := true) rfl ?_)
    refine PySem.bm_if_false rfl ?_
    refine wpAny_bind (wpAny_of_eq F.bm_sub ?_)
    refine PySem.bm_if_false rfl ?_
    refine wpAny_bind (wpAny_of_eq (F.bm_bind _) ?_)
    refine wpAny_bind (wpAny_of_eq (a := ()) rfl ?_)
    refine wpAny_bind (wpAny_of_eq (a := ()) rfl ?_)
    refine PySem.bm_if_false rfl ?_
    refine wpAny_bind (wpAny_specialOf (typeIs_bytes s b t) bytes_get_bytes ?_)
    refine wpAny_bind (wpAny_rule ?_)
    refine wpAny_bind (wpAny_typeOf (typeIs_bytes s b t) ?_)
    refine PySem.bm_if_true (by decide) ?_
    exact wpAny_pure ⟨_, rfl, h⟩
theorem B_bytesB {b : List UInt8} {Q : AV → Led → Prop} (h : Q (.byt b) Γ) : WL prog w s₀ A VR (fun vs => call (.type "bytes") vs) [.byt b] Γ Q := fun s vs S V => by
  obtain ⟨v, r, rfl, h1, h2⟩ := VRs_cons.mp V; cases VRs_nil.mp h2
  obtain ⟨t, rfl⟩ := VR_byt.mp h1
  exact callType_new F.bm_called (by decide) (F.bm_typeCall _) (F.bm_newCall _) (fun obj => F.args_object_init_2 obj _) F.bm_entry (meets_bytes_new b.toArray t)
    ⟨typeIs_bytes _ _ _, Post.stay S (VR_byt.mpr ⟨t, rfl⟩) h⟩

-- sum
theorem B_sum {a : Addr} {l : List Int} {Q : AV → Led → Prop} (hh : A.handled = none) (hm : (a, AO.lst (l.map AV.int)) ∈ Γ) (h : Q (.int l.sum) Γ) : WL prog w s₀ A VR (fun vs => call (.builtin "sum") vs) [.ref a] Γ Q := fun s vs S V => by
  obtain ⟨v, r, rfl, h1, h2⟩ := VRs_cons.mp V; cases VRs_nil.mp h2
  cases VR_raw.mp h1
  obtain ⟨us, p, rs⟩ := S.own _ hm
  have hi := rs.intsAre
  obtain ⟨xs, hxs⟩ := (show AllInts us.toArray from hi.allInts).items
  have hl : s.heap.IsList a (intItems xs) := by rw [← hxs]; exact p.isList
  refine sum_intListG hh hl fun h' tk t' hk => ?_
  refine Post.keepAll S hk ?_ h
  have e : numsOf us.toArray.toList = l := hi.numsOf
  rw [hxs, nums_intItems] at e
  rw [preSum_eq, List.take_of_length_le (by simp), e]
  exact VR_int.mpr ⟨_, rfl⟩

-- methods
section methods
variable {Q : AV → Led → Prop}
theorem G_append {a : Addr} {l : List AV} (hm : (a, AO.lst l) ∈ Γ) : GetsM prog w s₀ A (PySem.Str.ofString "append") "list.append" (.ref a) Γ := fun s v S r pl Q E q => by
  cases VR_raw.mp r
  obtain ⟨us, ⟨n, ho⟩, rs⟩ := S.own _ hm
  exact getMethod_builtin ⟨_, ho, rfl⟩ PySem.F.plainAttrs_list slot_list_append PySem.F.type_list_append (fun b e => by cases e; exact ⟨_, ho, rfl⟩) q
theorem G_extend {a : Addr} {l : List AV} (hm : (a, AO.lst l) ∈ Γ) : GetsM prog w s₀ A (PySem.Str.ofString "extend") "list.extend" (.ref a) Γ := fun s v S r pl Q E q => by
  cases VR_raw.mp r
  obtain ⟨us, ⟨n, ho⟩, rs⟩ := S.own _ hm
  exact getMethod_builtin ⟨_, ho, rfl⟩ PySem.F.plainAttrs_list PySem.F.slot_list_extend PySem.F.type_list_extend (fun b e => by cases e; exact ⟨_, ho, rfl⟩) q
theorem G_get {a : Addr} {l : List (Int × AV)} (hm : (a, AO.dct l) ∈ Γ) : GetsM prog w s₀ A (PySem.Str.ofString "get") "dict.get" (.ref a) Γ := fun s v S r pl Q E q => by
  cases VR_raw.mp r
  obtain ⟨kvs, p, _, rs⟩ := S.own _ hm
  exact getMethod_builtin p.typeIs PySem.F.plainAttrs_dict PySem.F.slot_dict_get PySem.F.type_dict_get p.mapOf.noDict q
theorem G_find {b : List UInt8} : GetsM prog w s₀ A (PySem.Str.ofString "find") "bytes.find" (.byt b) Γ := fun s v S r pl Q E q => by
  obtain ⟨t, rfl⟩ := VR_byt.mp r
  exact getMethod_builtin (typeIs_bytes _ _ _) FB.plainAttrs_bytes slot_find type_find (fun _ e => by cases e) q
theorem G_join {b : List UInt8} : GetsM prog w s₀ A (PySem.Str.ofString "join") "bytes.join" (.byt b) Γ := fun s v S r pl Q E q => by
  obtain ⟨t, rfl⟩ := VR_byt.mp r
  exact getMethod_builtin (typeIs_bytes _ _ _) FB.plainAttrs_bytes slot_join type_join (fun _ e => by cases e) q
theorem G_encode {x : PySem.Str} : GetsM prog w s₀ A (PySem.Str.ofString "encode") "str.encode" (.str x) Γ := fun s v S r pl Q E q => by
  obtain ⟨t, rfl⟩ := VR_str.mp r
  exact getMethod_builtin (typeIs_str _ _ _) PySem.F.plainAttrs_str slot_encode type_encode (fun _ e => by cases e) q

theorem M_append {a : Addr} {l : List AV} {x : AV} (u : Upd a (.lst l) (.lst (l ++ [x])) Γ Γ') (hz : l.length ≤ sizeLine) (h : Q .none Γ') : WL prog w s₀ A VR (fun vs => call (.builtin "list.append") vs) [.ref a, x] Γ Q := fun s vs S V => by
  obtain ⟨v, r, rfl, h1, h2⟩ := VRs_cons.mp V
  obtain ⟨v', r, rfl, h3, h4⟩ := VRs_cons.mp h2; cases VRs_nil.mp h4
  cases VR_raw.mp h1
  exact S.append u h3 hz fun s' k S' => ⟨k, .none, Γ', VR_raw.mpr rfl, S', h⟩
theorem M_extend {a b : Addr} {l m : List AV} (u : Upd a (.lst l) (.lst (l ++ m)) Γ Γ') (hm : (b, AO.lst m) ∈ Γ) (hz : l.length + m.length ≤ sizeLine) (h : Q .none Γ') :
    WL prog w s₀ A VR (fun vs => call (.builtin "list.extend") vs) [.ref a, .ref b] Γ Q := fun s vs S V => by
  obtain ⟨v, r, rfl, h1, h2⟩ := VRs_cons.mp V
  obtain ⟨v', r, rfl, h3, h4⟩ := VRs_cons.mp h2; cases VRs_nil.mp h4
  cases VR_raw.mp h1; cases VR_raw.mp h3
  obtain ⟨us, ⟨n, ho⟩, rs⟩ := S.own _ u.mem
  obtain ⟨us2, ⟨n2, ho2⟩, rs2⟩ := S.own _ hm
  have e1 := rs.length
  have e2 := rs2.length
  refine call_meets PySem.F.slot_list_extend ⟨_, ho, rfl⟩ PySem.F.entry_list_extend (PySem.F.args_list_extend_2 _ _)
    (AutoSeq1.list_extend_list_list_0 a us.toArray n b us2.toArray n2 (extend_door (by simp; omega)) (by simp; omega) (by simp; omega)) ⟨ho, ho2, ?_⟩
  have ho' : (s.heap.update a (Obj.mapSeq fun x => x ++ us2.toArray)).get? a = some { cls := .type "list", data := .seq (us ++ us2).toArray (if (us.toArray ++ us2.toArray).size == us.toArray.size then n else n + 1) } := by
    rw [Heap.get?_update_self _ ho (by rw [mapSeq_app]; rfl), mapSeq_app]
    simp only [List.append_toArray]
  obtain ⟨k, S'⟩ := S.ext u (Heap.SameBut.update ..).extBut s.toks fun k => ⟨us ++ us2, ⟨_, ho'⟩, (rs.tk k).append (rs2.tk k)⟩
  exact ⟨k, .none, Γ', VR_raw.mpr rfl, S', h⟩
theorem get_rel {h : Heap} {d : AV} {v : Value} {i : Int} : ∀ {l : List (Int × AV)} {kvs : List (Int × Value)}, kvs.map (·.1) = l.map (·.1) → VRs h (l.map (·.2)) (kvs.map (·.2)) → VR h d v →
    VR h (((l.find? fun p => p.1 = i).map (·.2)).getD d) ((valueAt kvs i).getD v)
  | [], kvs, e, _, hd => by
    cases kvs with
    | nil => exact hd
    | cons p r => simp at e
  | p :: l, [], e, _, hd => by simp at e
  | p :: l, q :: kvs, e, r, hd => by
    simp only [List.map_cons, List.cons.injEq] at e
    obtain ⟨v', r', e', h1, h2⟩ := VRs_cons.mp r
    simp only [List.map_cons, List.cons.injEq] at e'
    have ih := get_rel (i := i) e.2 (by rw [e'.2]; exact h2) hd
    unfold valueAt at ih ⊢
    by_cases hi : p.1 = i
    · simp only [List.find?_cons, e.1, hi, decide_true, Option.map_some, Option.getD_some]
      rw [e'.1]; exact h1
    · simp only [List.find?_cons, e.1, hi, decide_false]
      exact ih
theorem M_get {a : Addr} {l : List (Int × AV)} {i : Int} {d : AV} (hds : (a == sysModules) = false) (hm : (a, AO.dct l) ∈ Γ) (h : Q (((l.find? fun p => p.1 = i).map (·.2)).getD d) Γ) :
    WL prog w s₀ A VR (fun vs => call (.builtin "dict.get") vs) [.ref a, .int i, d] Γ Q := fun s vs S V => by
  obtain ⟨v, r, rfl, h1, h2⟩ := VRs_cons.mp V
  obtain ⟨v', r, rfl, h3, h4⟩ := VRs_cons.mp h2
  obtain ⟨v'', r, rfl, h5, h6⟩ := VRs_cons.mp h4; cases VRs_nil.mp h6
  cases VR_raw.mp h1; obtain ⟨t, rfl⟩ := VR_int.mp h3
  obtain ⟨kvs, p, ek, rs⟩ := S.own _ hm
  refine call_meetsIn PySem.F.slot_dict_get p.typeIs PySem.F.entry_dict_get (PySem.F.args_dict_get_3 _ _ _) (meets_dict_get_default (intKind prog w) a (intKind_is prog w i t) hds v'') ⟨_, p.mapOf, ?_⟩
  refine Post.tok S (get_rel ek rs h5) h _
theorem M_find {b c : List UInt8} {i : Int} (h0 : 0 ≤ i) (h : Q (.int (findI b.toArray c.toArray i)) Γ) : WL prog w s₀ A VR (fun vs => call (.builtin "bytes.find") vs) [.byt b, .byt c, .int i] Γ Q := fun s vs S V => by
  obtain ⟨v, r, rfl, h1, h2⟩ := VRs_cons.mp V
  obtain ⟨v', r, rfl, h3, h4⟩ := VRs_cons.mp h2
  obtain ⟨v'', r, rfl, h5, h6⟩ := VRs_cons.mp h4; cases VRs_nil.mp h6
  obtain ⟨t, rfl⟩ := VR_byt.mp h1; obtain ⟨t', rfl⟩ := VR_byt.mp h3; obtain ⟨t'', rfl⟩ := VR_int.mp h5
  exact call_find h0 (Post.tok S (VR_int.mpr ⟨_, rfl⟩) h _)
theorem VRs.areBytes {h : Heap} : ∀ {l : List (List UInt8)} {vs : List Value}, VRs h (l.map AV.byt) vs → AreBytes (l.map (·.toArray)) vs
  | [], _, x => by cases VRs_nil.mp x; exact ⟨rfl, fun i b e => by simp at e⟩
  | b :: l, _, x => by
    obtain ⟨v, r, rfl, h1, h2⟩ := VRs_cons.mp x
    obtain ⟨t, rfl⟩ := VR_byt.mp h1
    obtain ⟨e, f⟩ := VRs.areBytes h2
    refine ⟨by simpa using e, fun i c hc => ?_⟩
    cases i with
    | zero => simp at hc; exact ⟨t, by simp [hc]⟩
    | succ i => exact f i c (by simpa using hc)
theorem M_join {a : Addr} {l : List (List UInt8)} (hm : (a, AO.lst (l.map AV.byt)) ∈ Γ) (hz : l.flatten.length ≤ sizeLine) (h : Q (.byt l.flatten) Γ) : WL prog w s₀ A VR (fun vs => call (.builtin "bytes.join") vs) [.byt [], .ref a] Γ Q := fun s vs S V => by
  obtain ⟨v, r, rfl, h1, h2⟩ := VRs_cons.mp V
  obtain ⟨v', r, rfl, h3, h4⟩ := VRs_cons.mp h2; cases VRs_nil.mp h4
  obtain ⟨t, rfl⟩ := VR_byt.mp h1; cases VR_raw.mp h3
  obtain ⟨us, p, rs⟩ := S.own _ hm
  refine call_join p.isList rs.areBytes ?_ fun t' k => Post.tok S (VR_byt.mpr ⟨t', ?_⟩) h _
  · have e : sumSizes (l.map (·.toArray)) = l.flatten.length := by
      unfold sumSizes; rw [List.length_flatten, List.map_map]; rfl
    omega
  · congr 1
    apply Array.toList_inj.mp
    simp
theorem M_encode {x : PySem.Str} (hx : ∀ c ∈ x.cps.toList, c < 128) (hz : x.cps.size ≤ sizeLine) (h : Q (.byt (x.cps.toList.map Nat.toUInt8)) Γ) :
    WL prog w s₀ A VR (fun vs => call (.builtin "str.encode") vs) [.str x, .str (PySem.Str.ofString "ascii")] Γ Q := fun s vs S V => by
  obtain ⟨v, r, rfl, h1, h2⟩ := VRs_cons.mp V
  obtain ⟨v', r, rfl, h3, h4⟩ := VRs_cons.mp h2; cases VRs_nil.mp h4
  obtain ⟨t, rfl⟩ := VR_str.mp h1; obtain ⟨t', rfl⟩ := VR_str.mp h3
  refine call_encode hx hz fun t' k => Post.tok S (VR_byt.mpr ⟨t', ?_⟩) h _
  unfold octetsOf
  congr 1
  apply Array.toList_inj.mp
  simp
end methods

-- chained comparisons
section chains
variable {env : Env} {pos : Pos}
theorem E_Compare2 {l r₁ r₂ : Expr} {op₁ op₂ : CmpOp} {Q : AV → Led → Prop}
    (h : Wp prog w s₀ A VR (eval l env) Γ fun a Γ₁ => Wp prog w s₀ A VR (eval r₁ env) Γ₁ fun b Γ₂ => W2 prog w s₀ A VR (compareOp op₁) a b Γ₂ (BoolThen fun k Γ₃ =>
      if k then Wp prog w s₀ A VR (eval r₂ env) Γ₃ fun c Γ₄ => W2 prog w s₀ A VR (compareOp op₂) b c Γ₄ Q else Q (.bool false) Γ₃))
    (hm : lastMarks [op₁, op₂] [r₁, r₂] = false := by with_unfolding_all rfl) :
    Wp prog w s₀ A VR (eval (.Compare l [op₁, op₂] [r₁, r₂] pos) env) Γ Q := fun s S =>
  Compare_chain (noE (h s S) fun a s₁ h₁ => by
    obtain ⟨k₁, av, Γ₁, ra, S₁, q₁⟩ := h₁
    refine chain_link (noE (q₁ s₁ S₁) fun b s₂ h₂ => ?_)
    obtain ⟨k₂, bv, Γ₂, rb, S₂, q₂⟩ := h₂
    refine noE (q₂ s₂ a b S₂ (ra.tk k₂) rb) fun c s₃ h₃ => ?_
    obtain ⟨k₃, cv, Γ₃, rc, S₃, kk, rfl, q₃⟩ := h₃
    cases VR_raw.mp rc
    have K := (k₁.trans k₂).trans k₃
    refine wpAny_truthy_bool ?_
    cases kk with
    | false => exact ⟨K, _, Γ₃, VR_raw.mpr rfl, S₃, q₃⟩
    | true =>
      refine chain_last (noE (q₃ s₃ S₃) fun c s₄ h₄ => ?_)
      obtain ⟨k₄, cv, Γ₄, rc, S₄, q₄⟩ := h₄
      exact noE (q₄ s₄ b c S₄ ((rb.tk k₃).tk k₄) rc) fun _ _ z => z.le (K.trans k₄)) hm
theorem T_Compare2 {l r₁ r₂ : Expr} {op₁ op₂ : CmpOp} {whole : Sem Value} {Q : Bool → Led → Prop}
    (h : Wp prog w s₀ A VR (eval l env) Γ fun a Γ₁ => Wp prog w s₀ A VR (eval r₁ env) Γ₁ fun b Γ₂ => W2 prog w s₀ A VR (compareOp op₁) a b Γ₂ (BoolThen fun k Γ₃ =>
      if k then Wp prog w s₀ A VR (eval r₂ env) Γ₃ fun c Γ₄ => W2 prog w s₀ A VR (compareOp op₂) b c Γ₄ (BoolThen Q) else Q false Γ₃))
    (hm : lastMarks [op₁, op₂] [r₁, r₂] = false := by with_unfolding_all rfl) :
    Wp prog w s₀ A BR (isTrue (.Compare l [op₁, op₂] [r₁, r₂] pos) env whole) Γ Q := fun s S =>
  isTrue_chain (noE (h s S) fun a s₁ h₁ => by
    obtain ⟨k₁, av, Γ₁, ra, S₁, q₁⟩ := h₁
    refine test_link (noE (q₁ s₁ S₁) fun b s₂ h₂ => ?_)
    obtain ⟨k₂, bv, Γ₂, rb, S₂, q₂⟩ := h₂
    refine noE (q₂ s₂ a b S₂ (ra.tk k₂) rb) fun c s₃ h₃ => ?_
    obtain ⟨k₃, cv, Γ₃, rc, S₃, kk, rfl, q₃⟩ := h₃
    cases VR_raw.mp rc
    have K := (k₁.trans k₂).trans k₃
    refine wpAny_truthy_bool ?_
    cases kk with
    | false => exact ⟨K, _, Γ₃, rfl, S₃, q₃⟩
    | true =>
      refine test_last (noE (q₃ s₃ S₃) fun c s₄ h₄ => ?_)
      obtain ⟨k₄, cv, Γ₄, rc, S₄, q₄⟩ := h₄
      refine noE (q₄ s₄ b c S₄ ((rb.tk k₃).tk k₄) rc) fun d s₅ h₅ => ?_
      obtain ⟨k₅, dv, Γ₅, rd, S₅, kk, rfl, q₅⟩ := h₅
      cases VR_raw.mp rd
      exact wpAny_truthy_bool ⟨(K.trans k₄).trans k₅, kk, Γ₅, rfl, S₅, q₅⟩) hm
end chains
end
end

section
open PySem PySem.W PySem.Calls PyProof.Rows
set_option maxRecDepth 100000
set_option linter.unusedVariables false
section
variable {prog : Program} {w : World} {s₀ s : Shared} {A : Around} {Γ Γ' : Led}
open PySem.SeqAt

-- the same data are equal
mutual
def dep : AV → Nat
  | .tup l => deps l + 1
  | _ => 0
def deps : List AV → Nat
  | [] => 0
  | a :: l => max (dep a) (deps l)
end

theorem EqAt.bytes (b c : Array UInt8) (t u : Tok) (h : b = c) : EqAt A s (.bytes b t) (.bytes c u) true := fun prog w E Q hq => by
  unfold eqBool
  refine wpAny_holding ?_
  refine wpAny_ite_split (fun _ => ?_) (fun _ => ?_)
  · exact wpAny_bind (wpAny_rule (wpAny_pure hq))
  · refine wpAny_bind (richCompare_gives (op := .Eq) (typeIs_bytes s b t) (typeIs_bytes s c u) FB.slot_bytes_eq FB.entry_bytes_eq (FB.args_bytes_eq_2 _ _) (gives_bytes_eq b c t u) (fun e => nomatch e) ?_)
    subst h
    show wpAny _ _ (truthOfDropped (.bool (b.toList == b.toList))) _ _ s
    rw [beq_self_eq_true]
    exact wpAny_truthy_bool hq

theorem range_all_true (n : Nat) : ((List.range n).all fun _ => true) = true := by simp

mutual
theorem eqAt : ∀ (a : AV) (A : Around) (s : Shared) (v u : Value), VR s.heap a v → VR s.heap a u → A.units + dep a < cLine → EqAt A s v u true
  | .raw x, A, s, v, u, rv, ru, hu => by
    cases VR_raw.mp rv; cases VR_raw.mp ru
    exact EqAt.same _
  | .int i, A, s, v, u, rv, ru, hu => by
    obtain ⟨t, rfl⟩ := VR_int.mp rv; obtain ⟨t', rfl⟩ := VR_int.mp ru
    have := EqAt.int_int (A := A) (s := s) i t i t'
    rwa [beq_self_eq_true] at this
  | .str x, A, s, v, u, rv, ru, hu => by
    obtain ⟨t, rfl⟩ := VR_str.mp rv; obtain ⟨t', rfl⟩ := VR_str.mp ru
    have := EqAt.str_str (A := A) (s := s) x t x t'
    rwa [beq_self_eq_true] at this
  | .byt b, A, s, v, u, rv, ru, hu => by
    obtain ⟨t, rfl⟩ := VR_byt.mp rv; obtain ⟨t', rfl⟩ := VR_byt.mp ru
    exact EqAt.bytes _ _ _ _ rfl
  | .tup l, A, s, v, u, rv, ru, hu => by
    obtain ⟨a, vs, rfl, ha, rvs⟩ := VR_tup.mp rv; obtain ⟨b, us, rfl, hb, rus⟩ := VR_tup.mp ru
    have hd : dep (.tup l) = deps l + 1 := by rw [dep]
    by_cases hab : a = b
    · subst hab; exact EqAt.same _
    · refine EqAt.of_refs hab ?_
      have h := RcAt.tuples (A := A) (s := s) (e := fun _ => true) ha hb (by omega) fun j h1 h2 => by
        simpa using eqAts l A.in1 s vs us rvs rus (by show A.units + 1 + deps l < cLine; omega) j (by simpa using h1) (by simpa using h2)
      have e : (((List.range (min vs.toArray.size us.toArray.size)).all fun _ => true) && vs.toArray.size == us.toArray.size) = true := by
        rw [range_all_true]; simp [rvs.length, rus.length]
      rwa [e] at h
theorem eqAts : ∀ (l : List AV) (A : Around) (s : Shared) (vs us : List Value), VRs s.heap l vs → VRs s.heap l us → A.units + deps l < cLine → ∀ j (h1 : j < vs.length) (h2 : j < us.length), EqAt A s vs[j] us[j] true
  | [], A, s, vs, us, rv, ru, hu, j, h1, h2 => by
    cases VRs_nil.mp rv; exact absurd h1 (Nat.not_lt_zero _)
  | x :: l, A, s, vs, us, rv, ru, hu, j, h1, h2 => by
    obtain ⟨v, r, rfl, a1, a2⟩ := VRs_cons.mp rv
    obtain ⟨u, t, rfl, b1, b2⟩ := VRs_cons.mp ru
    have hd : deps (x :: l) = max (dep x) (deps l) := by rw [deps]
    cases j with
    | zero => exact eqAt x A s v u a1 b1 (by omega)
    | succ j => exact eqAts l A s r t a2 b2 (by omega) j (by simpa using h1) (by simpa using h2)
end

section
variable {Q : AV → Led → Prop}
/-- a != b, where both are the same data -/
theorem C_neN (h : Q (.bool false) Γ) : W2 prog w s₀ A VR (compareOp .NotEq) .none .none Γ Q := fun s v u S r q => by
  cases VR_raw.mp r; cases VR_raw.mp q
  exact RcNeAt.none_none prog w _ _ (Post.stay S (VR_raw.mpr rfl) h)
theorem C_neT {l : List AV} (hu : A.units + dep (.tup l) < cLine) (h : Q (.bool false) Γ) : W2 prog w s₀ A VR (compareOp .NotEq) (.tup l) (.tup l) Γ Q := fun s v u S r q => by
  obtain ⟨a, vs, rfl, ha, rvs⟩ := VR_tup.mp r; obtain ⟨b, us, rfl, hb, rus⟩ := VR_tup.mp q
  have hd : dep (.tup l) = deps l + 1 := by rw [dep]
  have hh := RcNeAt.tuples (A := A) (s := s) (e := fun _ => true) ha hb (by omega) fun j h1 h2 => by
    simpa using eqAts l A.in1 s vs us rvs rus (by show A.units + 1 + deps l < cLine; omega) j (by simpa using h1) (by simpa using h2)
  have e : (((List.range (min vs.toArray.size us.toArray.size)).all fun _ => true) && vs.toArray.size == us.toArray.size) = true := by
    rw [range_all_true]; simp [rvs.length, rus.length]
  rw [e] at hh
  exact hh prog w _ _ (Post.stay S (VR_raw.mpr rfl) h)
/-- (list, bytes) != (list, bytes) -/
theorem C_neLB {a b : Addr} {l : List AV} {c : List UInt8} (hu : A.units + deps l + 2 < cLine) (ha : (a, AO.lst l) ∈ Γ) (hb : (b, AO.lst l) ∈ Γ) (h : Q (.bool false) Γ) :
    W2 prog w s₀ A VR (compareOp .NotEq) (.tup [.ref a, .byt c]) (.tup [.ref b, .byt c]) Γ Q := fun s v u S r q => by
  obtain ⟨p, vs, rfl, hp, rvs⟩ := VR_tup.mp r; obtain ⟨p', us, rfl, hp', rus⟩ := VR_tup.mp q
  obtain ⟨v1, r1, rfl, x1, y1⟩ := VRs_cons.mp rvs
  obtain ⟨v2, r2, rfl, x2, y2⟩ := VRs_cons.mp y1; cases VRs_nil.mp y2
  obtain ⟨u1, t1, rfl, z1, w1⟩ := VRs_cons.mp rus
  obtain ⟨u2, t2, rfl, z2, w2⟩ := VRs_cons.mp w1; cases VRs_nil.mp w2
  cases VR_raw.mp x1; cases VR_raw.mp z1
  obtain ⟨t, rfl⟩ := VR_byt.mp x2; obtain ⟨t', rfl⟩ := VR_byt.mp z2
  obtain ⟨vs, pa, ra⟩ := S.own _ ha
  obtain ⟨us, pb, rb⟩ := S.own _ hb
  have lists : EqAt A.in1 s (.ref a) (.ref b) true := by
    by_cases hab : a = b
    · subst hab; exact EqAt.same _
    · refine EqAt.of_refs hab ?_
      have h := RcAt.lists (A := A.in1) (s := s) (e := fun _ => true) pa.isList pb.isList (by simp [ra.length, rb.length]) (by show A.units + 1 < cLine; omega) fun j h1 h2 => by
        simpa using eqAts l A.in1.in1 s vs us ra rb (by show A.units + 1 + 1 + deps l < cLine; omega) j (by simpa using h1) (by simpa using h2)
      rwa [range_all_true] at h
  have hh := RcNeAt.tuples (A := A) (s := s) (e := fun _ => true) hp hp' (by omega) fun j h1 h2 => by
    match j, h1, h2 with
    | 0, _, _ => exact lists
    | 1, _, _ => exact EqAt.bytes _ _ _ _ rfl
  exact hh prog w _ _ (Post.stay S (VR_raw.mpr rfl) h)
end

-- a slice of a list that stood before
theorem E_sliceL {env : Env} {pos spos : Pos} {value : Expr} {hi : Expr} {a : Addr} {vs : List Value} {ns : List Int} {k : Nat} {Q : AV → Led → Prop}
    (hl : s₀.heap.IsList a vs.toArray) (hn : IntsAre vs ns) (hz : vs.length ≤ sizeLine)
    (h : Wp prog w s₀ A VR (eval value env) Γ fun o Γ₁ => o = .ref a ∧ Wp prog w s₀ A PR (valueOrNone (evalOpt (some hi) env)) Γ₁ fun u Γ₂ => u = some (k : Int) ∧ ∀ D, Q (.ref D) ((D, .lst ((ns.take k).map AV.int)) :: Γ₂))
    (hs : ∀ o a, subscripted (.Slice none (some hi) none spos) false (.ref o) (.ref a) = operate [.ref a, .ref o] (getItem (.ref o) (.ref a)) := by intro _ _; with_unfolding_all rfl) :
    Wp prog w s₀ A VR (eval (.Subscript value (.Slice none (some hi) none spos) pos) env) Γ Q := fun s S =>
  PyProof.Rows.Subscript_ (noE (h s S) fun o s₁ h₁ => by
    obtain ⟨k₁, av, Γ₁, r₁, S₁, rfl, q₁⟩ := h₁
    cases VR_raw.mp r₁
    have e : eval (.Slice none (some hi) none spos) env = (do
      let l ← valueOrNone (evalOpt none env)
      let u ← holding [l] (valueOrNone (evalOpt (some hi) env))
      let s ← holding [l, u] (valueOrNone (evalOpt none env))
      newFields "slice" [l, u, s]) := rfl
    rw [e]
    refine wpAny_bind ?_
    show wpAny _ _ (pure Value.none) _ _ s₁
    refine wpAny_pure (wpAny_bind (wpAny_holding (noE (q₁ s₁ S₁) fun uv s₃ h₃ => ?_)))
    obtain ⟨k₃, hi', Γ₃, p₃, S₃, rfl, q₃⟩ := h₃
    refine wpAny_bind (wpAny_holding ?_)
    show wpAny _ _ (pure Value.none) _ _ s₃
    refine wpAny_pure ?_
    refine wpAny_newObj_type ?_ (by size_fits)
    have hl₃ : s₃.heap.IsList a vs.toArray := let ⟨o, ho, r⟩ := hl; ⟨o, S₃.keep _ _ ho, r⟩
    have S₄ := S₃.push0 { cls := .type "slice", data := .fields #[.none, uv, .none] } s₃.toks
    have hl₄ : (s₃.heap.push { cls := .type "slice", data := .fields #[.none, uv, .none] }).IsList a vs.toArray := hl₃.push _
    refine tail_any (Heap.IsList.typeIs (s := { s₃ with heap := s₃.heap.push { cls := .type "slice", data := .fields #[.none, uv, .none] } }) hl₄) slot_list_getitem.lookup
      (wpAny_getItem_list_slice hl₄ (Heap.IsSliceOf.new ..) .none p₃ .none (by simp) ?_ (by simpa using hz)) (hs _ _)
    rw [slicePick_upto']
    refine ⟨((k₁.trans k₃).trans (TK.push _ _)).trans (TK.push _ _), .ref _, _, VR_raw.mpr rfl, S₄.push (y := .lst ((ns.take k).map AV.int)) _ _ ⟨(vs.take k), ⟨_, Heap.get?_push_size _ rfl⟩, ?_⟩, q₃ _⟩
    have hv : ∀ {vs : List Value} {ns : List Int} {h : Heap}, IntsAre vs ns → VRs h (ns.map AV.int) vs := by
      intro vs ns h hi
      induction hi with
      | nil => exact VRs_nil.mpr rfl
      | cons n t _ ih => exact VRs_cons.mpr ⟨_, _, rfl, VR_int.mpr ⟨t, rfl⟩, ih⟩
    exact hv (hn.take k))
end
end

section
open PySem PySem.W PyProof.Rows
set_option maxRecDepth 100000
set_option maxHeartbeats 8000000
open_top hd for PySem.Challenge.rw_no0348_01
end

section
open PySem PySem.W PySem.Calls PyProof.Rows
set_option maxRecDepth 100000
set_option linter.unusedVariables false
/-- the top, as the walk finds it -/
structure Top0 (w : World) (s₀ : Shared) : Prop where
  X : (hd.heap_39 w.params).In s₀.heap
  T : ∃ p loose mg mb, TopRead p loose mg mb s₀.heap
theorem Top0.lim {w : World} {s₀ : Shared} (G : Top0 w s₀) : s₀.heap.NoLimit := let ⟨_, _, _, _, T⟩ := G.T; T.nolimit

section
variable {prog : Program} {w : World} {s₀ s : Shared} {A : Around} {Γ Γ' : Led}
/-- a call of a def of the top by its name -/
theorem E_callG {x : PySem.Str} {fa : Addr} {e : Expr} {rest : List Expr} {pos npos : Pos} {env : Env} {Q : AV → Led → Prop} (G : Top0 w s₀) (hn : nsIn (hd.heap_39 w.params) mainGlobals x = some (some (.ref fa))) (hkeep : keepIn (hd.heap_39 w.params) (.ref fa) = true)
    (hk : env.scope.kind = .function) (hx : env.kindOf x = some .globalImplicit) (hg : env.globals = mainGlobals) (hd : (x == ("__debug__" : PySem.Str)) = false)
    (hc : eval (.Call (.Name x npos) (e :: rest) [] pos) env = (do callWith pos (← eval (.Name x npos) env) [] (backTo pos (starEach (e :: rest) env)) []))
    (he : starEach (e :: rest) env = (false, eval e env) :: starEach rest env) (hplain : (backTo pos (starEach rest env)).any (·.1) = false)
    (h : Wp prog w s₀ A VRs (spliced (backTo pos (starEach (e :: rest) env))) Γ fun l Γ₂ => WL prog w s₀ A VR (fun vs => call (.ref fa) vs) l Γ₂ Q) :
    Wp prog w s₀ A VR (eval (.Call (.Name x npos) (e :: rest) [] pos) env) Γ Q := by
  obtain ⟨p, loose, mg, mb, T⟩ := G.T
  exact E_CallK G.X hkeep (E_global G.X T hn hk hx hg hd (VR_raw.mpr rfl) ⟨rfl, h⟩) hc he hplain
/-- a call of a built-in by its name -/
theorem E_callN {x : PySem.Str} {fv : Value} {e : Expr} {rest : List Expr} {pos npos : Pos} {env : Env} {Q : AV → Led → Prop} (G : Top0 w s₀) (hn : nsIn (hd.heap_39 w.params) mainGlobals x = some none) (hv : bootBuiltins x = some fv) (hne : x ≠ "__name__") (hfv : keeperOf fv = pure .machine)
    (hk : env.scope.kind = .function) (hx : env.kindOf x = some .globalImplicit) (hg : env.globals = mainGlobals) (hb : env.builtins = builtinsNs) (hd : (x == ("__debug__" : PySem.Str)) = false)
    (hc : eval (.Call (.Name x npos) (e :: rest) [] pos) env = (do callWith pos (← eval (.Name x npos) env) [] (backTo pos (starEach (e :: rest) env)) []))
    (he : starEach (e :: rest) env = (false, eval e env) :: starEach rest env) (hplain : (backTo pos (starEach rest env)).any (·.1) = false)
    (h : Wp prog w s₀ A VRs (spliced (backTo pos (starEach (e :: rest) env))) Γ fun l Γ₂ => WL prog w s₀ A VR (fun vs => call fv vs) l Γ₂ Q) :
    Wp prog w s₀ A VR (eval (.Call (.Name x npos) (e :: rest) [] pos) env) Γ Q := by
  obtain ⟨p, loose, mg, mb, T⟩ := G.T
  exact E_CallB hfv (E_builtin G.X T hn hv hne hk hx hg hb hd ⟨rfl, h⟩) hc he hplain
/-- a constant of the top -/
theorem E_constG {x : PySem.Str} {v : Value} {av : AV} {pos : Pos} {env : Env} {Q : AV → Led → Prop} (G : Top0 w s₀) (hn : nsIn (hd.heap_39 w.params) mainGlobals x = some (some v))
    (hk : env.scope.kind = .function) (hx : env.kindOf x = some .globalImplicit) (hg : env.globals = mainGlobals) (hd : (x == ("__debug__" : PySem.Str)) = false) (r : VR s₀.heap av v) (h : Q av Γ) :
    Wp prog w s₀ A VR (eval (.Name x pos) env) Γ Q := by
  obtain ⟨p, loose, mg, mb, T⟩ := G.T
  exact E_global G.X T hn hk hx hg hd r h

theorem g_is_figure (P : Params) : nsIn (hd.heap_39 P) mainGlobals (PySem.Str.ofString "is_figure") = some (some (.ref 21)) := rfl
theorem g_number (P : Params) : nsIn (hd.heap_39 P) mainGlobals (PySem.Str.ofString "number_of_figures") = some (some (.ref 28)) := rfl
theorem g_head (P : Params) : nsIn (hd.heap_39 P) mainGlobals (PySem.Str.ofString "literal_head") = some (some (.ref 35)) := rfl
theorem g_end (P : Params) : nsIn (hd.heap_39 P) mainGlobals (PySem.Str.ofString "command_end") = some (some (.ref 42)) := rfl
theorem g_wanted (P : Params) : nsIn (hd.heap_39 P) mainGlobals (PySem.Str.ofString "literal_wanted") = some (some (.ref 49)) := rfl
theorem g_split (P : Params) : nsIn (hd.heap_39 P) mainGlobals (PySem.Str.ofString "split_commands") = some (some (.ref 56)) := rfl
theorem g_take (P : Params) : nsIn (hd.heap_39 P) mainGlobals (PySem.Str.ofString "_law_take") = some (some (.ref 63)) := rfl
theorem g_bag (P : Params) : nsIn (hd.heap_39 P) mainGlobals (PySem.Str.ofString "_law_bag") = some (some (.ref 70)) := rfl
theorem g_line (P : Params) : nsIn (hd.heap_39 P) mainGlobals (PySem.Str.ofString "_law_line") = some (some (.ref 75)) := rfl
theorem g_command (P : Params) : nsIn (hd.heap_39 P) mainGlobals (PySem.Str.ofString "_law_command") = some (some (.ref 80)) := rfl
theorem g_CRLF (P : Params) : nsIn (hd.heap_39 P) mainGlobals (PySem.Str.ofString "CRLF") = some (some (.bytes #[13, 10] 187)) := rfl
theorem g_MOST (P : Params) : nsIn (hd.heap_39 P) mainGlobals (PySem.Str.ofString "MOST_COUNT_FIGURES") = some (some (.int 10 191)) := rfl
theorem n_len (P : Params) : nsIn (hd.heap_39 P) mainGlobals (PySem.Str.ofString "len") = some none := rfl
theorem n_range (P : Params) : nsIn (hd.heap_39 P) mainGlobals (PySem.Str.ofString "range") = some none := rfl
theorem n_bytes (P : Params) : nsIn (hd.heap_39 P) mainGlobals (PySem.Str.ofString "bytes") = some none := rfl
theorem n_str (P : Params) : nsIn (hd.heap_39 P) mainGlobals (PySem.Str.ofString "str") = some none := rfl
theorem n_min (P : Params) : nsIn (hd.heap_39 P) mainGlobals (PySem.Str.ofString "min") = some none := rfl
theorem n_max (P : Params) : nsIn (hd.heap_39 P) mainGlobals (PySem.Str.ofString "max") = some none := rfl
theorem n_sum (P : Params) : nsIn (hd.heap_39 P) mainGlobals (PySem.Str.ofString "sum") = some none := rfl
theorem b_len : bootBuiltins (PySem.Str.ofString "len") = some (.builtin "len") := by decide +kernel
theorem b_range : bootBuiltins (PySem.Str.ofString "range") = some (.type "range") := by decide +kernel
theorem b_bytes : bootBuiltins (PySem.Str.ofString "bytes") = some (.type "bytes") := by decide +kernel
theorem b_str : bootBuiltins (PySem.Str.ofString "str") = some (.type "str") := by decide +kernel
theorem b_min : bootBuiltins (PySem.Str.ofString "min") = some (.builtin "min") := by decide +kernel
theorem b_max : bootBuiltins (PySem.Str.ofString "max") = some (.builtin "max") := by decide +kernel
theorem b_sum : bootBuiltins (PySem.Str.ofString "sum") = some (.builtin "sum") := by decide +kernel

/-- a def without cells, its locals written out -/
theorem K_plain {fa : Addr} {name qual : PySem.Str} {params : Arguments} {body : List Stmt} {scope : Scope} {dV kV doc pm cdv ct oc : Value} {an od : Option Addr} {osl : Array (Option Value)} {l : List AV} {Q : AV → Led → Prop}
    (G : Top0 w s₀) (names more : List PySem.Str) (ρ : List (PySem.Str × Option AV)) (hA : A.depth < 900) (ho : (hd.heap_39 w.params).lookup fa = some ⟨oc, od, .func (fnOf name qual params body scope dV kV doc pm an cdv ct), osl⟩)
    (hcd : codeIn (hd.heap_39 w.params) cdv qual = true) (hlen : l.length = names.length)
    (hbind : ∀ vs, vs.length = names.length → bindArgs (fnOf name qual params body scope dV kV doc pm an cdv ct) ⟨vs, []⟩ = pure (names.zip vs))
    (hloc : ∀ x ∈ names, scope.names.lookup x = some .local) (hcell : ∀ x ∈ scope.names, x.2 ≠ .cell) (nd : (names ++ more).Nodup)
    (hco : scope.isCoroutine = false) (hgen : scope.isGenerator = false) (hk : scope.kind = .function) (hρ : names.zip (l.map some) ++ more.map (·, none) = ρ)
    (h : ∀ L, Wp prog w s₀ (A.deeper (envX qual scope L fa cdv [])) FR (execs body (envX qual scope L fa cdv [])) ((L, .ns ρ) :: Γ) (Back Q)) :
    WL prog w s₀ A VR (fun vs => call (.ref fa) vs) l Γ Q :=
  K_def G.X G.lim ho hcd (Nat.lt_trans hA (by decide)) names more hlen hbind hloc hcell nd (by rw [hρ]; exact h) hco hgen hk

/-- a def with two cells, its locals and its cells written out -/
theorem K_two {fa : Addr} {name qual : PySem.Str} {params : Arguments} {body : List Stmt} {scope : Scope} {dV kV doc pm cdv ct oc : Value} {an od : Option Addr} {osl : Array (Option Value)} {l : List AV} {Q : AV → Led → Prop}
    (G : Top0 w s₀) (names : List PySem.Str) (n₁ n₂ : PySem.Str) (ρ : List (PySem.Str × Option AV)) (o₁ o₂ : Option AV) (hA : A.depth < 900)
    (ho : (hd.heap_39 w.params).lookup fa = some ⟨oc, od, .func (fnOf name qual params body scope dV kV doc pm an cdv ct), osl⟩)
    (hcd : codeIn (hd.heap_39 w.params) cdv qual = true) (hlen : l.length = names.length)
    (hbind : ∀ vs, vs.length = names.length → bindArgs (fnOf name qual params body scope dV kV doc pm an cdv ct) ⟨vs, []⟩ = pure (names.zip vs))
    (hcs : ∀ n, cellsFrom n scope.names [] = [(n₂, n + 1), (n₁, n)]) (hne : n₂ ≠ n₁)
    (hkinds : ∀ x ∈ names, scope.names.lookup x = some .local ∨ (scope.names.lookup x = some .cell ∧ ∀ n, (List.lookup x [(n₂, n + 1), (n₁, n)]).isSome = true)) (ndn : names.Nodup) (ndρ : (ρ.map (·.1)).Nodup)
    (hρ : ∀ x av, (x, some av) ∈ ρ → (x, av) ∈ names.zip l ∧ scope.names.lookup x = some .local)
    (h₁ : ∀ av, o₁ = some av → (n₁, av) ∈ names.zip l ∧ scope.names.lookup n₁ = some .cell)
    (h₂ : ∀ av, o₂ = some av → (n₂, av) ∈ names.zip l ∧ scope.names.lookup n₂ = some .cell)
    (hco : scope.isCoroutine = false) (hgen : scope.isGenerator = false) (hk : scope.kind = .function)
    (h : ∀ L c₁ c₂, Wp prog w s₀ (A.deeper (envX qual scope L fa cdv [(n₂, c₂), (n₁, c₁)])) FR (execs body (envX qual scope L fa cdv [(n₂, c₂), (n₁, c₁)])) ((L, .ns ρ) :: (c₂, .cell o₂) :: (c₁, .cell o₁) :: Γ) (Back Q)) :
    WL prog w s₀ A VR (fun vs => call (.ref fa) vs) l Γ Q := by
  refine K_defC G.X G.lim ho hcd (Nat.lt_trans hA (by decide)) names ρ (fun x => if x = n₁ then o₁ else if x = n₂ then o₂ else none) hlen hbind (fun x hx => (hkinds x hx).imp id fun q => ⟨q.1, fun n => by rw [hcs]; exact q.2 n⟩) ndn ndρ hρ ?_ ?_ ?_ hco hgen hk
  · intro x av e
    split at e
    · rename_i q; subst q; exact h₁ av e
    · split at e
      · rename_i q; subst q; exact h₂ av e
      · cases e
  · intro n; rw [hcs]; simp [hne]
  · intro L
    have e := hcs (L + 1)
    rw [e]
    have := h L (L + 1) (L + 1 + 1)
    have e2 : cellLed (fun x => if x = n₁ then o₁ else if x = n₂ then o₂ else none) [(n₂, L + 1 + 1), (n₁, L + 1)] = [(L + 1 + 1, AO.cell o₂), (L + 1, AO.cell o₁)] := by
      simp [cellLed, hne]
    rw [e2]
    exact this

theorem boolThen {Q : Bool → Led → Prop} {k : Bool} (h : Q k Γ) : BoolThen Q (.bool k) Γ := ⟨k, rfl, h⟩
theorem if_b {k : Bool} {P R : Prop} (h1 : k = true → P) (h2 : k = false → R) : if k = true then P else R := by
  cases k with
  | true => exact h1 rfl
  | false => simpa using h2 rfl
theorem if_t {k : Bool} {P R : Prop} (e : k = true) (h : P) : if k = true then P else R := by rw [if_pos e]; exact h
theorem if_f {k : Bool} {P R : Prop} (e : k = false) (h : R) : if k = true then P else R := by rw [e]; simpa using h

/-- a ledger with one place open -/
def Hole (a : Addr) (f : AO → Led) : Prop := ∀ x y, Upd a x y (f x) (f y)
theorem Hole.mem {a : Addr} {f : AO → Led} (h : Hole a f) (x : AO) : (a, x) ∈ f x := (h x x).mem
theorem Hole.head (a : Addr) (Γ : Led) : Hole a fun y => (a, y) :: Γ := fun _ _ => .head
theorem Hole.tail {a : Addr} {f : AO → Led} (h : Hole a f) (p : Addr × AO) : Hole a fun y => p :: f y := fun x y => .tail (h x y)
inductive Spot (a : Addr) (x : AO) : Led → (AO → Led) → Prop
  | head {Γ : Led} : Spot a x ((a, x) :: Γ) (fun y => (a, y) :: Γ)
  | tail {p : Addr × AO} {Γ : Led} {f : AO → Led} : Spot a x Γ f → Spot a x (p :: Γ) (fun y => p :: f y)
  | hole {f : AO → Led} : Hole a f → Spot a x (f x) f
theorem Spot.eq {a : Addr} {x : AO} {Γ : Led} {f : AO → Led} (s : Spot a x Γ f) : Γ = f x ∧ Hole a f := by
  induction s with
  | head => exact ⟨rfl, Hole.head _ _⟩
  | tail _ ih => exact ⟨by rw [ih.1], ih.2.tail _⟩
  | hole h => exact ⟨rfl, h⟩
theorem Spot.upd {a : Addr} {x y : AO} {Γ : Led} {f : AO → Led} (s : Spot a x Γ f) : Upd a x y Γ (f y) := by
  obtain ⟨rfl, h⟩ := s.eq; exact h x y
/-- a contract over a ledger with a hole is used where the place is spotted -/
theorem WL.spot {a : Addr} {x : AO} {f : AO → Led} {t : List Value → Sem Value} {l : List AV} {Q : AV → Led → Prop} (s : Spot a x Γ f) (h : Hole a f → WL prog w s₀ A VR t l (f x) Q) : WL prog w s₀ A VR t l Γ Q := by
  obtain ⟨rfl, hf⟩ := s.eq; exact h hf
end
end

section
open PySem PySem.W PySem.Calls PyProof.Rows
set_option maxRecDepth 100000
set_option linter.unusedVariables false
/-- up to the first line's end, and what follows it -/
def crlf : List UInt8 → Option (List UInt8 × List UInt8)
  | [] => none
  | c :: r => if c = 13 ∧ r.head? = some 10 then some ([], r.tail) else (crlf r).map fun p => (c :: p.1, p.2)

def isFig (c : UInt8) : Bool := decide (48 ≤ (c.toNat : Int)) && decide ((c.toNat : Int) ≤ 57)
def numOf (b : List UInt8) : Int := b.foldl (fun n c => n * 10 + (c.toNat : Int) - 48) 0
/-- what a line ends in, read from behind -/
def headR : List UInt8 → Option (Int × Bool)
  | [] => none
  | c :: r => if c = 125 then
      let r2 := if r.head? = some 43 then r.tail else r
      let fs := r2.takeWhile isFig
      if (r2.dropWhile isFig).head? = some 123 ∧ 0 < fs.length ∧ fs.length ≤ 10 then some (numOf fs.reverse, !decide (r.head? = some 43)) else none
    else none
def headOf (s : List UInt8) : Option (Int × Bool) := headR s.reverse

/-- the end of the command that begins at k -/
inductive End (d : List UInt8) : Nat → Int → Option (Int × Bool) → Prop
  | none {k : Nat} : crlf (d.drop k) = none → End d k (-1) none
  | line {k : Nat} {pre post : List UInt8} : crlf (d.drop k) = some (pre, post) → headOf pre = none → End d k ((k + pre.length + 2 : Nat) : Int) none
  | head {k : Nat} {pre : List UInt8} {h : Int × Bool} : crlf (d.drop k) = some (pre, []) → headOf pre = some h → End d k (-1) (some h)
  | short {k n : Nat} {pre post : List UInt8} {b : Bool} : crlf (d.drop k) = some (pre, post) → post ≠ [] → headOf pre = some ((n : Int), b) → post.length < n → End d k (-1) none
  | next {k n : Nat} {pre post : List UInt8} {b : Bool} {e : Int} {o : Option (Int × Bool)} : crlf (d.drop k) = some (pre, post) → post ≠ [] → headOf pre = some ((n : Int), b) → n ≤ post.length → End d (k + pre.length + 2 + n) e o → End d k e o
inductive Wanted (d : List UInt8) : Nat → Option (Int × Bool) → Prop
  | stop {k : Nat} {o : Option (Int × Bool)} : End d k (-1) o → Wanted d k o
  | go {k e : Nat} {o o' : Option (Int × Bool)} : End d k (e : Int) o' → Wanted d e o → Wanted d k o
inductive Split (d : List UInt8) : Nat → List (List UInt8) → List UInt8 → Prop
  | stop {k : Nat} {o : Option (Int × Bool)} : End d k (-1) o → Split d k [] (d.drop k)
  | go {k e : Nat} {o : Option (Int × Bool)} {cs : List (List UInt8)} {r : List UInt8} : End d k (e : Int) o → Split d e cs r → Split d k ((d.drop k).take (e - k) :: cs) r

theorem crlf_some : ∀ {r pre post : List UInt8}, crlf r = some (pre, post) → r = pre ++ 13 :: 10 :: post ∧ ∀ j, j < pre.length → (r.drop j).take 2 ≠ [13, 10]
  | [], pre, post, h => by cases h
  | c :: r, pre, post, h => by
    unfold crlf at h
    split at h
    · rename_i hc
      cases h
      obtain ⟨rfl, h2⟩ := hc
      cases r with
      | nil => cases h2
      | cons d r => simp at h2; subst h2; exact ⟨rfl, fun j hj => absurd hj (Nat.not_lt_zero _)⟩
    · rename_i hc
      cases h' : crlf r with
      | none => rw [h'] at h; cases h
      | some p =>
        obtain ⟨p, q⟩ := p
        rw [h'] at h
        simp at h
        obtain ⟨rfl, rfl⟩ := h
        obtain ⟨e, f⟩ := crlf_some h'
        refine ⟨by rw [e]; rfl, fun j hj => ?_⟩
        cases j with
        | zero =>
          intro q
          apply hc
          cases r with
          | nil => simp at q
          | cons d r => simp at q; exact ⟨q.1, by simp [q.2]⟩
        | succ j => simpa using f j (by simpa using hj)
theorem crlf_none : ∀ {r : List UInt8}, crlf r = none → ∀ j, (r.drop j).take 2 ≠ [13, 10]
  | [], h, j => by simp
  | c :: r, h, j => by
    unfold crlf at h
    split at h
    · cases h
    · rename_i hc
      have h' : crlf r = none := by simpa using h
      cases j with
      | zero =>
        intro q
        apply hc
        cases r with
        | nil => simp at q
        | cons d r => simp at q; exact ⟨q.1, by simp [q.2]⟩
      | succ j => simpa using crlf_none h' j

theorem find_pred (d : List UInt8) (i : Nat) : (d.toArray.extract i (i + 2) == #[13, 10]) = decide ((d.drop i).take 2 = [13, 10]) := by
  have e : d.toArray.extract i (i + 2) = ((d.drop i).take 2).toArray := by
    apply Array.toList_inj.mp
    rw [List.extract_toArray, List.extract_eq_take_drop]
    simp
  rw [e, Bool.eq_iff_iff]
  simp only [beq_iff_eq, decide_eq_true_eq]
  constructor
  · intro h; exact congrArg Array.toList h
  · intro h; rw [h]

theorem findI_crlf (d : List UInt8) (k : Nat) (hk : k ≤ d.length) : findI d.toArray [13, 10].toArray (k : Int) = match crlf (d.drop k) with | none => -1 | some p => ((k + p.1.length : Nat) : Int) := by
  unfold findI
  simp only [List.size_toArray, List.length_cons, List.length_nil]
  by_cases hs : (d.length : Int) - k < ((0 + 1 + 1 : Nat) : Int)
  · rw [if_pos hs]
    cases hc : crlf (d.drop k) with
    | none => rfl
    | some p =>
      obtain ⟨e, _⟩ := crlf_some (pre := p.1) (post := p.2) hc
      have := congrArg List.length e
      simp at this
      omega
  · rw [if_neg hs]
    unfold Builtin.Bytes.find?
    simp only [List.size_toArray, List.length_cons, List.length_nil, Int.toNat_natCast]
    rw [List.find?_map]
    have ep : ((fun i => d.toArray.extract i (i + (0 + 1 + 1)) == [13, 10].toArray) ∘ fun x => x + k) = fun j => decide (((d.drop k).drop j).take 2 = [13, 10]) := by
      funext j
      show (d.toArray.extract (j + k) (j + k + 2) == #[13, 10]) = _
      rw [find_pred, List.drop_drop, Nat.add_comm k j]
    rw [ep]
    cases hc : crlf (d.drop k) with
    | none =>
      have hn := crlf_none hc
      have : (List.range (d.length + 1 - (k + (0 + 1 + 1)))).find? (fun j => decide (((d.drop k).drop j).take 2 = [13, 10])) = none := by
        rw [List.find?_eq_none]
        intro j _
        simpa using hn j
      rw [this]; rfl
    | some p =>
      obtain ⟨pre, post⟩ := p
      obtain ⟨e, f⟩ := crlf_some hc
      have hl := congrArg List.length e
      simp at hl
      have : (List.range (d.length + 1 - (k + (0 + 1 + 1)))).find? (fun j => decide (((d.drop k).drop j).take 2 = [13, 10])) = some pre.length := by
        rw [List.find?_range_eq_some]
        refine ⟨?_, ?_, ?_⟩
        · rw [e]; simp
        · rw [List.mem_range]; omega
        · intro j hj
          simpa using f j hj
      rw [this]
      simp
      omega
end

section
open PySem PySem.W PySem.Calls PyProof.Rows
set_option maxRecDepth 100000
set_option linter.unusedVariables false
abbrev nm (x : String) : PySem.Str := PySem.Str.ofString x
/-- what lies from b up to k, from behind -/
def rs (d : List UInt8) (b k : Nat) : List UInt8 := ((d.take k).drop b).reverse
theorem rs_self (d : List UInt8) (b : Nat) : rs d b b = [] := by
  unfold rs
  rw [List.drop_eq_nil_of_le (by simp; omega)]; rfl
theorem rs_succ (d : List UInt8) {b k : Nat} (h1 : b ≤ k) (h2 : k < d.length) : rs d b (k + 1) = d.getD k 0 :: rs d b k := by
  unfold rs
  rw [List.take_add_one, List.drop_append_of_le_length (by simp; omega)]
  simp [h2, List.getD_eq_getElem?_getD]
theorem rs_len (d : List UInt8) {b k : Nat} (h2 : k ≤ d.length) : (rs d b k).length = k - b := by
  unfold rs; simp; omega
theorem rs_fs {d fs : List UInt8} {b t m : Nat} (h1 : b ≤ t) (h2 : t ≤ m) (h3 : m ≤ d.length) (e : rs d b m = fs ++ rs d b t) : (d.drop t).take (m - t) = fs.reverse := by
  unfold rs at e
  have e' := congrArg List.reverse e
  simp only [List.reverse_reverse, List.reverse_append] at e'
  have e3 : (d.take m).drop t = ((d.take m).drop b).drop (t - b) := by rw [List.drop_drop]; congr 1; omega
  rw [← List.drop_take, e3, e', List.drop_append_of_le_length (by simp; omega), List.drop_eq_nil_of_le (by simp; omega)]
  rfl
theorem cut_mid (d : List UInt8) {lo hi : Nat} (h1 : lo ≤ hi) (h2 : hi ≤ d.length) : cut d (some (lo : Int)) (some (hi : Int)) = (d.drop lo).take (hi - lo) := by
  unfold cut
  have e : ∀ k : Nat, k ≤ d.length → clipAt d.length (k : Int) = k := fun k hk => by
    unfold clipAt; split <;> omega
  simp only [Option.elim_some]
  rw [e lo (by omega), e hi h2]
theorem cut_from (d : List UInt8) {lo : Nat} (h2 : lo ≤ d.length) : cut d (some (lo : Int)) none = d.drop lo := by
  unfold cut
  have e : ∀ k : Nat, k ≤ d.length → clipAt d.length (k : Int) = k := fun k hk => by
    unfold clipAt; split <;> omega
  simp only [Option.elim_some, Option.elim_none]
  rw [e lo h2]
  exact List.take_of_length_le (by simp)
theorem cut_upto (d : List UInt8) {hi : Nat} (h2 : hi ≤ d.length) : cut d none (some (hi : Int)) = d.take hi := by
  unfold cut
  have e : ∀ k : Nat, k ≤ d.length → clipAt d.length (k : Int) = k := fun k hk => by
    unfold clipAt; split <;> omega
  simp only [Option.elim_some, Option.elim_none]
  rw [e hi h2]
  simp
theorem span_stop {fs rest : List UInt8} (h1 : ∀ c ∈ fs, isFig c = true) (h2 : ∀ c, rest.head? = some c → isFig c = false) : (fs ++ rest).takeWhile isFig = fs ∧ (fs ++ rest).dropWhile isFig = rest := by
  induction fs with
  | nil =>
    cases rest with
    | nil => exact ⟨rfl, rfl⟩
    | cons c r => have := h2 c rfl; simp [this]
  | cons c fs ih =>
    have hc := h1 c (.head _)
    have := ih fun x hx => h1 x (.tail _ hx)
    simp [hc, this.1, this.2]
theorem getD_at {d : List UInt8} {k : Nat} (h : k < d.length) {i : Int} (e : i = k) : d[i.toNat]? = some (d.getD k 0) := by
  subst e; simp [List.getD_eq_getElem?_getD, h]

theorem headR_run {r r2 fs rest : List UInt8} (hr : r2 = if r.head? = some 43 then r.tail else r) (e : r2 = fs ++ rest) (h1 : ∀ c ∈ fs, isFig c = true) (h2 : ∀ c, rest.head? = some c → isFig c = false) :
    headR (125 :: r) = if rest.head? = some 123 ∧ 0 < fs.length ∧ fs.length ≤ 10 then some (numOf fs.reverse, !decide (r.head? = some 43)) else none := by
  obtain ⟨t, d⟩ := span_stop h1 h2
  unfold headR
  simp only [if_true]
  rw [← hr, e, t, d]
theorem headR_other {c : UInt8} {r : List UInt8} (h : c ≠ 125) : headR (c :: r) = none := by
  unfold headR; exact if_neg h
theorem u_eq (c k : UInt8) : ((c.toNat : Int) == (k.toNat : Int)) = decide (c = k) := by
  rw [Bool.eq_iff_iff]
  simp only [beq_iff_eq, decide_eq_true_eq]
  constructor
  · intro h; exact UInt8.toNat_inj.mp (by omega)
  · intro h; rw [h]
theorem u_ne (c k : UInt8) : ((c.toNat : Int) != (k.toNat : Int)) = !decide (c = k) := by
  unfold bne; rw [u_eq]

section
variable {prog : Program} {w : World} {s₀ s : Shared} {A : Around} {Γ Γ' : Led}
/-- between two statements -/
def Mid (J : Led → Prop) (Q : AF → Led → Prop) (f : AF) (Γ : Led) : Prop := match f with
  | .next => ∃ Γ', List.Sublist Γ' Γ ∧ J Γ'
  | .brk => Q .brk Γ
  | .cont => Q .cont Γ
  | .ret v => Q (.ret v) Γ
theorem X_seqJ {st : Stmt} {rest : List Stmt} {env : Env} {Q : AF → Led → Prop} (J : Led → Prop) (h : Wp prog w s₀ A FR (exec st env) Γ (Mid J Q)) (h2 : ∀ Γ', J Γ' → Wp prog w s₀ A FR (execs rest env) Γ' Q) : Wp prog w s₀ A FR (execs (st :: rest) env) Γ Q :=
  X_cons (h.mono fun f Γ₁ q => by
    cases f with
    | next => obtain ⟨Γ₂, hs, j⟩ := q; exact (h2 _ j).drop hs
    | brk => exact q
    | cont => exact q
    | ret v => exact q)
theorem mid_next {J : Led → Prop} {Q : AF → Led → Prop} (h : J Γ) : Mid J Q .next Γ := ⟨Γ, List.Sublist.refl _, h⟩
theorem mid_sub {J : Led → Prop} {Q : AF → Led → Prop} (Γ' : Led) (hs : List.Sublist Γ' Γ) (h : J Γ') : Mid J Q .next Γ := ⟨Γ', hs, h⟩
theorem mid_ret {J : Led → Prop} {Q : AF → Led → Prop} {v : AV} (h : Q (.ret v) Γ) : Mid J Q (.ret v) Γ := h
end
section
variable {prog : Program} {w : World} {s₀ s : Shared} {A : Around} {Γ Γ' : Led} {env : Env}
theorem AE_nil {Q : Unit → Led → Prop} (h : Q () Γ) : AssignIn prog w s₀ A ((assignEach [] env).map (·.2)) [] Γ Q := AI_nil h
theorem AE_cons {e : Expr} {rest : List Expr} {a : AV} {l : List AV} {Q : Unit → Led → Prop} (h : W1 prog w s₀ A UR (fun v => assign e env v) a Γ fun _ Γ₁ => AssignIn prog w s₀ A ((assignEach rest env).map (·.2)) l Γ₁ Q)
    (he : (assignEach (e :: rest) env).map (·.2) = (fun v => assign e env v) :: (assignEach rest env).map (·.2)) : AssignIn prog w s₀ A ((assignEach (e :: rest) env).map (·.2)) (a :: l) Γ Q := by
  rw [he]; exact AI_cons h
end
section
variable {prog : Program} {w : World} {s₀ s : Shared} {A : Around} {Γ Γ' : Led} {env : Env} {pos : Pos}
/-- a list that will be stored into -/
theorem E_listA {elts : List Expr} {Q : AV → Led → Prop}
    (h : Wp prog w s₀ A VRs (spliced (backTo pos (starEach elts env))) Γ fun l Γ₁ => l.length ≤ sizeLine ∧ ∀ a, Q (.ref a) ((a, .arr l) :: Γ₁)) : Wp prog w s₀ A VR (eval (.List elts pos) env) Γ Q := fun s S =>
  PyProof.Rows.List_ (wpAny_mono (h s S) (fun vs s₁ h₁ => by
    obtain ⟨k₁, l, Γ₁, r₁, S₁, hz, q₁⟩ := h₁
    refine wpAny_newObj_type ?_ (by show vs.toArray.size ≤ sizeLine; rw [List.size_toArray, r₁.length]; exact hz)
    have kp : TK s₁.heap (s₁.heap.push { cls := .type "list", data := .seq vs.toArray }) := TK.push _ _
    exact ⟨k₁.trans kp, _, _, VR_raw.mpr rfl, S₁.push (y := .arr l) _ s₁.toks (OR.isList ⟨vs, ⟨0, Heap.get?_push_size _ rfl⟩, r₁.tk kp⟩), q₁ _⟩) fun _ _ e => e)
end
theorem getD_ints {l : List Int} {i : Nat} (h : i < l.length) : (l.map AV.int).getD i AV.none = .int (l.getD i 0) := by
  simp [List.getD_eq_getElem?_getD, h]
theorem getD_byts {l : List (List UInt8)} {i : Nat} (h : i < l.length) : (l.map AV.byt).getD i AV.none = .byt (l.getD i []) := by
  simp [List.getD_eq_getElem?_getD, h]
theorem bits_lt {k : Int} {m : Nat} (h0 : 0 ≤ k) (h1 : k < 2 ^ m) : Builtin.Int.intBits k ≤ m := by
  unfold Builtin.Int.intBits
  split
  · exact Nat.zero_le _
  · rename_i hne
    have h2 : k.natAbs < 2 ^ m := by
      have : ((k.natAbs : Nat) : Int) < ((2 ^ m : Nat) : Int) := by push_cast; omega
      exact Int.ofNat_lt.mp this
    have h3 : k.natAbs ≠ 0 := by
      intro e; apply hne; simp; omega
    exact (Nat.log2_lt h3).mpr h2
/-- a head, as a value -/
def hv : Option (Int × Bool) → AV
  | none => .none
  | some p => .tup [.int p.1, .bool p.2]
end

section
open PySem PySem.W PySem.Calls PyProof.Rows
set_option maxRecDepth 100000
set_option linter.unusedVariables false
theorem ifs_nil {prog : Program} {w : World} {s₀ : Shared} {A : Around} {Γ : Led} {env : Env} {K : Bool → Led → Prop} (h : K true Γ) : IfsOk prog w s₀ A [] env Γ K := h
theorem ifs_one {prog : Program} {w : World} {s₀ : Shared} {A : Around} {Γ : Led} {env : Env} {c : Expr} {K : Bool → Led → Prop} (h : Wp prog w s₀ A BR (isTrue c env (eval c env)) Γ K) : IfsOk prog w s₀ A [c] env Γ K := h
theorem fmod_nat (n : Int) {m : Nat} (h : 0 < m) : ∃ k : Nat, k < m ∧ n.fmod m = (k : Int) := by
  have h1 := Int.fmod_nonneg_of_pos n (show (0 : Int) < (m : Int) by omega)
  have h2 := Int.fmod_lt_of_pos n (show (0 : Int) < (m : Int) by omega)
  exact ⟨(n.fmod m).toNat, by omega, by omega⟩
theorem byts_at {l : List (List UInt8)} {j : Nat} (h : j < l.length) : (l.map AV.byt)[((j : Nat) : Int).toNat]? = some (.byt (l.getD j [])) := by
  simp [List.getD_eq_getElem?_getD, h]
theorem getD_in {α : Type} {l : List α} {j : Nat} {d : α} (h : j < l.length) : l.getD j d ∈ l := by
  rw [List.getD_eq_getElem?_getD, List.getElem?_eq_getElem h]; exact List.getElem_mem h
theorem flat_le {ps : List (List UInt8)} {m : Nat} (h : ∀ p ∈ ps, p.length ≤ m) : ps.flatten.length ≤ ps.length * m := by
  induction ps with
  | nil => simp
  | cons p ps ih =>
    have h1 := h p (.head _)
    have h2 := ih fun x hx => h x (.tail _ hx)
    rw [List.flatten_cons, List.length_append, List.length_cons, Nat.succ_mul]
    omega
/-- what a line is made of -/
def pieceL : List (List UInt8) := [[97], [32], [34], [123, 53, 125, 32], [123, 53, 125, 120], [10], [13, 120], [125]]
/-- what a literal is made of -/
def contentL : List (List UInt8) := [[123, 51, 125, 13, 10], [65, 50, 32, 78, 79, 79, 80, 13, 10], [13, 10], [121], [123, 48, 43, 125, 13, 10], [0, 255]]
/-- what ends a line that is no head -/
def tailL : List (List UInt8) := [[], [123, 125], [123, 43, 125], [123, 49, 50, 51, 52, 53, 54, 55, 56, 57, 48, 49, 125], [123, 53], [53, 125], [123, 53, 43, 43, 125], [123, 45, 49, 125], [123, 53, 32, 125], [97, 123, 53, 125, 98], [43, 125]]
/-- a count in figures, noughts ahead -/
def figS (z n : Nat) : PySem.Str := Txt.mul (nm "0") (z : Int) ++ PySem.Str.ofString (toString (n : Int))
def figsOf (z n : Nat) : List UInt8 := (figS z n).cps.toList.map Nat.toUInt8
theorem figs_all : ∀ z ∈ [0, 1, 8], ∀ n ∈ List.range 28, ((figS z n).cps.toList.all (fun c => decide (c < 128)) && decide ((figsOf z n).length ≤ 10) && decide (0 < (figsOf z n).length) && (figsOf z n).all isFig && decide (numOf (figsOf z n) = (n : Int))) = true := by decide +kernel
theorem figs_facts {z n : Nat} (hz : z ∈ [0, 1, 8]) (hn : n ≤ 27) : (∀ c ∈ (figS z n).cps.toList, c < 128) ∧ (figsOf z n).length ≤ 10 ∧ 0 < (figsOf z n).length ∧ (∀ c ∈ figsOf z n, isFig c = true) ∧ numOf (figsOf z n) = (n : Int) := by
  have h := figs_all z hz n (List.mem_range.mpr (by omega))
  simp only [Bool.and_eq_true, decide_eq_true_eq, List.all_eq_true] at h
  exact ⟨h.1.1.1.1, h.1.1.1.2, h.1.1.2, h.1.2, h.2⟩
/-- a head with its line's end -/
def headB (z n : Nat) (w : Bool) : List UInt8 := [123] ++ figsOf z n ++ (if w = true then [125] else [43, 125]) ++ [13, 10]
/-- a command up to behind its i-th literal; where the heads end; where the literals end -/
inductive Body : Nat → List UInt8 → List (Nat × Nat × Bool) → List Nat → Prop
  | nil : Body 0 [65, 49, 32, 120] [] []
  | lit {i : Nat} {fd : List UInt8} {hs : List (Nat × Nat × Bool)} {bs : List Nat} {ps cs : List (List UInt8)} {z : Nat} {w : Bool} : Body i fd hs bs → ps.length ≤ 3 → (∀ p ∈ ps, p ∈ pieceL) → cs.length ≤ 3 → (∀ c ∈ cs, c ∈ contentL) → z ∈ [0, 1, 8] →
      Body (i + 1) (fd ++ ps.flatten ++ headB z cs.flatten.length w ++ cs.flatten) (hs ++ [((fd ++ ps.flatten ++ headB z cs.flatten.length w).length, cs.flatten.length, w)])
        (bs ++ [(fd ++ ps.flatten ++ headB z cs.flatten.length w ++ cs.flatten).length])
def Cmd (found : List UInt8) (hs : List (Nat × Nat × Bool)) (bs : List Nat) : Prop :=
  ∃ i fd ps t, i ≤ 2 ∧ Body i fd hs bs ∧ List.length ps ≤ 3 ∧ (∀ p ∈ ps, p ∈ pieceL) ∧ t ∈ tailL ∧ found = fd ++ ps.flatten ++ t ++ [13, 10]
theorem line_le {ps : List (List UInt8)} (h1 : ps.length ≤ 3) (h2 : ∀ p ∈ ps, p ∈ pieceL) : ps.flatten.length ≤ 12 := by
  have := flat_le (m := 4) fun p hp => (by decide : ∀ p ∈ pieceL, p.length ≤ 4) p (h2 p hp)
  omega
theorem content_le {cs : List (List UInt8)} (h1 : cs.length ≤ 3) (h2 : ∀ p ∈ cs, p ∈ contentL) : cs.flatten.length ≤ 27 := by
  have := flat_le (m := 9) fun p hp => (by decide : ∀ p ∈ contentL, p.length ≤ 9) p (h2 p hp)
  omega
theorem headB_le {z n : Nat} (w : Bool) (hz : z ∈ [0, 1, 8]) (hn : n ≤ 27) : (headB z n w).length ≤ 15 := by
  have := (figs_facts hz hn).2.1
  unfold headB
  cases w <;> simp <;> omega
theorem Body.len {i : Nat} {fd : List UInt8} {hs : List (Nat × Nat × Bool)} {bs : List Nat} (h : Body i fd hs bs) : fd.length ≤ 4 + 60 * i ∧ hs.length = i ∧ bs.length = i := by
  induction h with
  | nil => exact ⟨by simp, rfl, rfl⟩
  | lit _ h1 h2 h3 h4 h5 ih =>
    have a := line_le h1 h2
    have b := content_le h3 h4
    have c := headB_le ‹Bool› h5 b
    refine ⟨?_, by simp [ih.2.1], by simp [ih.2.2]⟩
    simp only [List.length_append]
    omega
theorem Cmd.len {found : List UInt8} {hs : List (Nat × Nat × Bool)} {bs : List Nat} (h : Cmd found hs bs) : found.length ≤ 160 ∧ hs.length ≤ 2 ∧ bs.length ≤ 2 := by
  obtain ⟨i, fd, ps, t, hi, hb, h1, h2, h3, rfl⟩ := h
  have a := line_le h1 h2
  have b := hb.len
  have c := (by decide : ∀ t ∈ tailL, t.length ≤ 13) t h3
  refine ⟨?_, by omega, by omega⟩
  simp only [List.length_append, List.length_cons, List.length_nil]
  omega
/-- a head's place and what is due there -/
def hAV (p : Nat × Nat × Bool) : AV := .tup [.int p.1, .tup [.int p.2.1, .bool p.2.2]]
def nAV (n : Nat) : AV := .int n
theorem noughts_at {j : Nat} (h : j < 3) : ∃ z ∈ [0, 1, 8], ([AV.int 0, AV.int 1, AV.int 8] : List AV)[((j : Nat) : Int).toNat]? = some (.int ((z : Nat) : Int)) := by
  have : j = 0 ∨ j = 1 ∨ j = 2 := by omega
  rcases this with rfl | rfl | rfl
  · exact ⟨0, by simp, rfl⟩
  · exact ⟨1, by simp, rfl⟩
  · exact ⟨8, by simp, rfl⟩
section
variable {prog : Program} {w : World} {s₀ s : Shared} {A : Around} {Γ Γ' : Led} {env : Env} {pos : Pos}
theorem figS_len (z n : Nat) : (figS z n).cps.size = (figsOf z n).length := by unfold figsOf; simp
theorem M_encodeF {z n : Nat} {Q : AV → Led → Prop} (hz : z ∈ [0, 1, 8]) (hn : n ≤ 27) (h : Q (.byt (figsOf z n)) Γ) : WL prog w s₀ A VR (fun vs => call (.builtin "str.encode") vs) [.str (figS z n), .str (PySem.Str.ofString "ascii")] Γ Q := by
  have f := figs_facts hz hn
  refine M_encode f.1 ?_ h
  rw [figS_len, sizeLine_eq]; omega
theorem O_addF {z n : Nat} {Q : AV → Led → Prop} (hz : z ∈ [0, 1, 8]) (hn : n ≤ 27) (h : Q (.str (figS z n)) Γ) : W2 prog w s₀ A VR (binaryOp .Add) (.str (Txt.mul (nm "0") ((z : Nat) : Int))) (.str (PySem.Str.ofString (toString ((n : Nat) : Int)))) Γ Q := by
  have f := figs_facts hz hn
  refine O_addS ?_ h
  have e : (figS z n).length = (Txt.mul (nm "0") (z : Int)).length + (PySem.Str.ofString (toString ((n : Nat) : Int))).length := by
    unfold figS; rw [PySem.Str.length_append]
  have e2 : (figS z n).length = (figsOf z n).length := figS_len z n
  rw [sizeLine_eq]; omega
theorem E_ifBytes {t : Expr} {x y : List UInt8} {k1 k2 : Nat} {p1 p2 : Pos} {Q : AV → Led → Prop} (h : Wp prog w s₀ A BR (isTrue t env (eval t env)) Γ fun c Γ₁ => Q (.byt (if c = true then x else y)) Γ₁) :
    Wp prog w s₀ A VR (eval (.IfExp t (.Constant (.bytes x) k1 p1) (.Constant (.bytes y) k2 p2) pos) env) Γ Q :=
  E_IfExp (h.mono fun c Γ₁ q => by
    cases c with
    | true => exact E_bytes q
    | false => exact E_bytes q)
theorem log_small {n : Nat} (h : n ≤ 27) : (((n : Nat) : Int)).natAbs.log2 < 1920 := by
  have := Nat.log2_le_self n
  simp; omega
end
theorem fd_head (fd : List UInt8) (z n : Nat) (w : Bool) : fd ++ [123] ++ figsOf z n ++ (if w = true then [125] else [43, 125]) ++ [13, 10] = fd ++ headB z n w := by
  unfold headB; simp
end

section
open PySem PySem.W PySem.Calls PyProof.Rows
set_option maxRecDepth 100000
set_option linter.unusedVariables false
/-- no line's end within, and none that might begin at its end -/
def notLF : List UInt8 → Bool
  | [] => false
  | d :: _ => d != 10
def clean : List UInt8 → Bool
  | [] => true
  | c :: r => (c != 13 || notLF r) && clean r
theorem clean_append : ∀ {a b : List UInt8}, clean a = true → clean b = true → clean (a ++ b) = true
  | [], b, _, h => h
  | [c], b, h, h' => by
    simp only [clean, notLF, Bool.or_false, Bool.and_true] at h
    show ((c != 13 || notLF b) && clean b) = true
    rw [h, h']; rfl
  | c :: d :: a, b, h, h' => by
    have h2 : ((c != 13 || d != 10) && clean (d :: a)) = true := h
    rw [Bool.and_eq_true] at h2
    have := clean_append h2.2 h'
    show ((c != 13 || d != 10) && clean (d :: a ++ b)) = true
    rw [h2.1, this]; rfl
theorem clean_no13 : ∀ {a : List UInt8}, (∀ c ∈ a, c ≠ 13) → clean a = true
  | [], _ => rfl
  | c :: r, h => by
    have h1 := h c (.head _)
    have h2 := clean_no13 fun x hx => h x (.tail _ hx)
    show (_ && clean r) = true
    rw [h2, Bool.and_true]
    simp [h1]
theorem clean_flat : ∀ {ps : List (List UInt8)}, (∀ p ∈ ps, clean p = true) → clean ps.flatten = true
  | [], _ => rfl
  | p :: ps, h => by
    rw [List.flatten_cons]
    exact clean_append (h p (.head _)) (clean_flat fun x hx => h x (.tail _ hx))
theorem crlf_clean : ∀ {a post : List UInt8}, clean a = true → crlf (a ++ 13 :: 10 :: post) = some (a, post)
  | [], post, _ => by simp [crlf]
  | c :: r, post, h => by
    have h' : ((c != 13 || notLF r) && clean r) = true := h
    rw [Bool.and_eq_true] at h'
    have ih := crlf_clean (post := post) h'.2
    have e : crlf (c :: r ++ 13 :: 10 :: post) = if c = 13 ∧ (r ++ 13 :: 10 :: post).head? = some 10 then some ([], (r ++ 13 :: 10 :: post).tail) else (crlf (r ++ 13 :: 10 :: post)).map fun p => (c :: p.1, p.2) := rfl
    rw [e, ih, if_neg]
    · rfl
    · rintro ⟨rfl, h2⟩
      cases r with
      | nil => simp at h2
      | cons d r => simp at h2; subst h2; simp [notLF] at h'
theorem crlf_part : ∀ {a : List UInt8} {n : Nat}, clean a = true → n ≤ a.length + 1 → crlf ((a ++ [13]).take n) = none
  | [], 0, _, _ => rfl
  | [], 1, _, _ => by simp [crlf]
  | [], n + 2, _, h => by simp at h
  | c :: r, 0, _, _ => rfl
  | c :: r, n + 1, h, hn => by
    have h' : ((c != 13 || notLF r) && clean r) = true := h
    rw [Bool.and_eq_true] at h'
    have ih := crlf_part (a := r) (n := n) h'.2 (by simpa using hn)
    have e : crlf ((c :: r ++ [13]).take (n + 1)) = if c = 13 ∧ ((r ++ [13]).take n).head? = some 10 then some ([], ((r ++ [13]).take n).tail) else (crlf ((r ++ [13]).take n)).map fun p => (c :: p.1, p.2) := rfl
    rw [e, ih, if_neg]
    · rfl
    · rintro ⟨rfl, h2⟩
      cases n with
      | zero => simp at h2
      | succ n =>
        cases r with
        | nil => simp at h2
        | cons d r => simp at h2; subst h2; simp [notLF] at h'

/-- a part of a command: the line with its head, the head's count and its waiting, the literal -/
structure Seg where
  pre : List UInt8
  n : Nat
  w : Bool
  lit : List UInt8
structure Seg.Good (s : Seg) : Prop where
  clean : clean s.pre = true
  head : headOf s.pre = some ((s.n : Int), s.w)
  len : s.lit.length = s.n
def Seg.all (s : Seg) : List UInt8 := s.pre ++ 13 :: 10 :: s.lit
def flat (l : List Seg) : List UInt8 := (l.map Seg.all).flatten
/-- where the heads end -/
def hsOf (k : Nat) : List Seg → List (Nat × Nat × Bool)
  | [] => []
  | s :: r => (k + s.pre.length + 2, s.n, s.w) :: hsOf (k + s.pre.length + 2 + s.n) r
def wantOf (hs : List (Nat × Nat × Bool)) (c : Nat) : Option (Int × Bool) := (hs.find? fun p => p.1 = c).map fun p => ((p.2.1 : Int), p.2.2)

theorem hsOf_above : ∀ {l : List Seg} {k : Nat}, ∀ p ∈ hsOf k l, k + 2 ≤ p.1
  | [], _, p, h => by cases h
  | s :: r, k, p, h => by
    rcases List.mem_cons.mp h with rfl | h
    · show k + 2 ≤ k + s.pre.length + 2; omega
    · have := hsOf_above p h; omega
theorem hsOf_below : ∀ {l : List Seg} {k : Nat}, (∀ s ∈ l, s.Good) → ∀ p ∈ hsOf k l, p.1 ≤ k + (flat l).length
  | [], _, _, p, h => by cases h
  | s :: r, k, g, p, h => by
    have e : (flat (s :: r)).length = s.pre.length + 2 + s.n + (flat r).length := by
      have := (g s (.head _)).len
      simp [flat, Seg.all]; omega
    rcases List.mem_cons.mp h with rfl | h
    · show k + s.pre.length + 2 ≤ _; omega
    · have := hsOf_below (fun x hx => g x (.tail _ hx)) p h; omega
theorem wantOf_skip {hs : List (Nat × Nat × Bool)} {c : Nat} (h : ∀ p ∈ hs, p.1 ≠ c) : wantOf hs c = none := by
  unfold wantOf
  rw [List.find?_eq_none.mpr (by simpa using h)]; rfl
theorem wantOf_left {a b : List (Nat × Nat × Bool)} {c : Nat} (h : ∀ p ∈ b, p.1 ≠ c) : wantOf (a ++ b) c = wantOf a c := by
  have e : b.find? (fun p => decide (p.1 = c)) = none := List.find?_eq_none.mpr (by simpa using h)
  unfold wantOf
  rw [List.find?_append, e, Option.or_none]
theorem wantOf_right {a b : List (Nat × Nat × Bool)} {c : Nat} (h : ∀ p ∈ a, p.1 ≠ c) : wantOf (a ++ b) c = wantOf b c := by
  have e : a.find? (fun p => decide (p.1 = c)) = none := List.find?_eq_none.mpr (by simpa using h)
  unfold wantOf
  rw [List.find?_append, e, Option.none_or]
theorem wantOf_cons {p : Nat × Nat × Bool} {b : List (Nat × Nat × Bool)} {c : Nat} : wantOf (p :: b) c = if p.1 = c then some ((p.2.1 : Int), p.2.2) else wantOf b c := by
  unfold wantOf
  rw [List.find?_cons]
  by_cases h : p.1 = c <;> simp [h]

theorem take_eq_part {a b : List UInt8} {n : Nat} (h : n ≤ a.length + 1) : (a ++ 13 :: 10 :: b).take n = (a ++ [13]).take n := by
  have e : a ++ 13 :: 10 :: b = (a ++ [13]) ++ 10 :: b := by simp
  rw [e, List.take_append_of_le_length (by simpa using h)]

/-- what command_end says of a command that stands at k, cut at p's end -/
theorem end_run {lst : List UInt8} (hl : clean lst = true) (hn : headOf lst = none) : ∀ (l : List Seg) (k m : Nat) (p rest : List UInt8), (∀ s ∈ l, s.Good) → k + m = p.length → p.drop k = (flat l ++ (lst ++ 13 :: 10 :: rest)).take m →
    (((flat l).length + lst.length + 2 ≤ m → End p k ((k + ((flat l).length + lst.length + 2) : Nat) : Int) none) ∧ (m < (flat l).length + lst.length + 2 → End p k (-1) (wantOf (hsOf k l) p.length)))
  | [], k, m, p, rest, _, hk, hp => by
    have e0 : (flat []).length = 0 := rfl
    have hp : p.drop k = (lst ++ 13 :: 10 :: rest).take m := hp
    refine ⟨fun h => ?_, fun h => ?_⟩
    · have e : (lst ++ 13 :: 10 :: rest).take m = lst ++ 13 :: 10 :: rest.take (m - lst.length - 2) := by
        rw [List.take_append, List.take_of_length_le (by omega)]
        congr 1
        obtain ⟨j, hj⟩ : ∃ j, m - lst.length = j + 2 := ⟨m - lst.length - 2, by omega⟩
        rw [hj]; rfl
      have := End.line (d := p) (k := k) (pre := lst) (post := rest.take (m - lst.length - 2)) (by rw [hp, e]; exact crlf_clean hl) hn
      have e3 : k + lst.length + 2 = k + ((flat []).length + lst.length + 2) := by omega
      rw [e3] at this; exact this
    · have : End p k (-1) none := End.none (by rw [hp, take_eq_part (by omega)]; exact crlf_part hl (by omega))
      exact this
  | s :: r, k, m, p, rest, g, hk, hp => by
    have gs := g s (.head _)
    have ef : (flat (s :: r)).length = s.pre.length + 2 + s.n + (flat r).length := by
      have := gs.len
      simp [flat, Seg.all]; omega
    have ex : flat (s :: r) ++ (lst ++ 13 :: 10 :: rest) = s.pre ++ 13 :: 10 :: (s.lit ++ (flat r ++ (lst ++ 13 :: 10 :: rest))) := by
      simp [flat, Seg.all]
    rw [ex] at hp
    have ew : hsOf k (s :: r) = (k + s.pre.length + 2, s.n, s.w) :: hsOf (k + s.pre.length + 2 + s.n) r := rfl
    have ab := hsOf_above (l := r) (k := k + s.pre.length + 2 + s.n)
    by_cases h1 : m < s.pre.length + 2
    · refine ⟨fun h => by omega, fun _ => ?_⟩
      rw [wantOf_skip]
      · exact End.none (by rw [hp, take_eq_part (by omega)]; exact crlf_part gs.clean (by omega))
      · intro q hq
        have := hsOf_above q (l := s :: r) hq
        rw [ew] at hq
        rcases List.mem_cons.mp hq with rfl | hq
        · show k + s.pre.length + 2 ≠ _; omega
        · have := ab q hq; omega
    have e : (s.pre ++ 13 :: 10 :: (s.lit ++ (flat r ++ (lst ++ 13 :: 10 :: rest)))).take m = s.pre ++ 13 :: 10 :: (s.lit ++ (flat r ++ (lst ++ 13 :: 10 :: rest))).take (m - s.pre.length - 2) := by
      rw [List.take_append, List.take_of_length_le (by omega)]
      congr 1
      obtain ⟨j, hj⟩ : ∃ j, m - s.pre.length = j + 2 := ⟨m - s.pre.length - 2, by omega⟩
      rw [hj]; rfl
    rw [e] at hp
    have hc : crlf (p.drop k) = some (s.pre, (s.lit ++ (flat r ++ (lst ++ 13 :: 10 :: rest))).take (m - s.pre.length - 2)) := by rw [hp]; exact crlf_clean gs.clean
    have hlen : ((s.lit ++ (flat r ++ (lst ++ 13 :: 10 :: rest))).take (m - s.pre.length - 2)).length = m - s.pre.length - 2 := by
      have := congrArg List.length hp
      simp only [List.length_drop, List.length_append, List.length_cons] at this
      omega
    by_cases h2 : m = s.pre.length + 2
    · refine ⟨fun h => by omega, fun _ => ?_⟩
      rw [ew, wantOf_cons, if_pos (by show k + s.pre.length + 2 = p.length; omega)]
      refine End.head (pre := s.pre) ?_ gs.head
      rw [hc]
      have : m - s.pre.length - 2 = 0 := by omega
      rw [this]; rfl
    have hne : (s.lit ++ (flat r ++ (lst ++ 13 :: 10 :: rest))).take (m - s.pre.length - 2) ≠ [] := fun q => by
      rw [q] at hlen; simp at hlen; omega
    by_cases h3 : m - s.pre.length - 2 < s.n
    · refine ⟨fun h => by omega, fun _ => ?_⟩
      rw [wantOf_skip]
      · exact End.short hc hne gs.head (by rw [hlen]; exact h3)
      · intro q hq
        rw [ew] at hq
        rcases List.mem_cons.mp hq with rfl | hq
        · show k + s.pre.length + 2 ≠ _; omega
        · have := ab q hq; omega
    · have hd : p.drop (k + s.pre.length + 2 + s.n) = (flat r ++ (lst ++ 13 :: 10 :: rest)).take (m - s.pre.length - 2 - s.n) := by
        have e1 : p.drop (k + s.pre.length + 2 + s.n) = (p.drop k).drop (s.pre.length + 2 + s.n) := by rw [List.drop_drop]; congr 1; omega
        rw [e1, hp]
        have e2 : s.pre ++ 13 :: 10 :: (s.lit ++ (flat r ++ (lst ++ 13 :: 10 :: rest))).take (m - s.pre.length - 2) = (s.pre ++ [13, 10]) ++ (s.lit ++ (flat r ++ (lst ++ 13 :: 10 :: rest))).take (m - s.pre.length - 2) := by simp
        rw [e2, List.drop_append, List.drop_eq_nil_of_le (by simp), List.nil_append]
        have e3 : s.pre.length + 2 + s.n - (s.pre ++ [13, 10]).length = s.n := by simp
        rw [e3, List.drop_take, List.drop_append, List.drop_eq_nil_of_le (by rw [gs.len]; exact Nat.le_refl _), gs.len]
        simp
      obtain ⟨i1, i2⟩ := end_run hl hn r (k + s.pre.length + 2 + s.n) (m - s.pre.length - 2 - s.n) p rest (fun x hx => g x (.tail _ hx)) (by omega) hd
      refine ⟨fun h => ?_, fun h => ?_⟩
      · have := End.next hc hne gs.head (by rw [hlen]; omega) (i1 (by omega))
        have e5 : k + s.pre.length + 2 + s.n + ((flat r).length + lst.length + 2) = k + ((flat (s :: r)).length + lst.length + 2) := by omega
        rw [e5] at this; exact this
      · rw [ew, wantOf_cons, if_neg (by show ¬ k + s.pre.length + 2 = p.length; omega)]
        exact End.next hc hne gs.head (by rw [hlen]; omega) (i2 (by omega))
end

section
open PySem PySem.W PySem.Calls PyProof.Rows
set_option maxRecDepth 100000
set_option linter.unusedVariables false
theorem headR_open {r r2 fs rest : List UInt8} (hr : r2 = if r.head? = some 43 then r.tail else r) (e : r2 = fs ++ rest) (h1 : ∀ c ∈ fs, isFig c = true) (h2 : ∀ c, rest.head? = some c → isFig c = false)
    (h : ¬ (rest.head? = some 123 ∧ 0 < fs.length ∧ fs.length ≤ 10)) : headR (125 :: r) = none := by
  rw [headR_run hr e h1 h2, if_neg h]
/-- how a line may end ahead of its tail: never in a figure, never in '{' -/
def calm (X : List UInt8) : Prop := ∀ c, X.head? = some c → c ∈ [97, 32, 34, 120, 10, 125]
theorem calm_fig : ∀ c ∈ ([97, 32, 34, 120, 10, 125] : List UInt8), isFig c = false ∧ c ≠ 123 ∧ c ≠ 43 := by decide
theorem piece_end : ∀ p ∈ pieceL, ∃ c Y, p.reverse = c :: Y ∧ c ∈ [97, 32, 34, 120, 10, 125] ∧ (c = 125 → Y = []) := by
  intro p hp
  simp only [pieceL, List.mem_cons, List.not_mem_nil, or_false] at hp
  rcases hp with rfl | rfl | rfl | rfl | rfl | rfl | rfl | rfl <;> exact ⟨_, _, rfl, by decide, by decide⟩
def pends : List (List UInt8) := [[], [65, 49, 32, 120]]
/-- a line ahead of its tail, from behind -/
theorem line_rev {pend : List UInt8} (hp : pend ∈ pends) {ps : List (List UInt8)} (h : ∀ p ∈ ps, p ∈ pieceL) : calm (pend ++ ps.flatten).reverse ∧ ∀ Y, (pend ++ ps.flatten).reverse = 125 :: Y → calm Y := by
  have hq : ∀ ps : List (List UInt8), (∀ p ∈ ps, p ∈ pieceL) → calm (pend ++ ps.flatten).reverse := by
    intro ps h
    rcases List.eq_nil_or_concat ps with rfl | ⟨qs, q, rfl⟩
    · simp only [pends, List.mem_cons, List.not_mem_nil, or_false] at hp
      rcases hp with rfl | rfl
      · intro c hc; simp at hc
      · intro c hc; simp at hc; subst hc; decide
    · obtain ⟨c, Y, e, hc, _⟩ := piece_end q (h q (by simp))
      intro d hd
      have : (pend ++ (qs ++ [q]).flatten).reverse = c :: (Y ++ (pend ++ qs.flatten).reverse) := by
        simp [e]
      simp only [List.concat_eq_append] at hd
      rw [this] at hd
      simp at hd; subst hd; exact hc
  refine ⟨hq ps h, fun Y e => ?_⟩
  rcases List.eq_nil_or_concat ps with rfl | ⟨qs, q, rfl⟩
  · simp only [pends, List.mem_cons, List.not_mem_nil, or_false] at hp
    rcases hp with rfl | rfl <;> simp at e
  · obtain ⟨c, Z, e', hc, h125⟩ := piece_end q (h q (by simp))
    have e2 : (pend ++ (qs ++ [q]).flatten).reverse = c :: (Z ++ (pend ++ qs.flatten).reverse) := by
      simp [e']
    simp only [List.concat_eq_append] at e
    rw [e2] at e
    injection e with e3 e4
    subst e3
    rw [h125 rfl, List.nil_append] at e4
    rw [← e4]
    exact hq qs fun p hp => h p (by simp [hp])

theorem pend_clean : ∀ p ∈ pends, clean p = true := by decide
theorem piece_clean : ∀ p ∈ pieceL, clean p = true := by decide
theorem tail_clean : ∀ p ∈ tailL, clean p = true := by decide
theorem line_clean {pend : List UInt8} (hp : pend ∈ pends) {ps : List (List UInt8)} (h : ∀ p ∈ ps, p ∈ pieceL) : clean (pend ++ ps.flatten) = true :=
  clean_append (pend_clean _ hp) (clean_flat fun p hp => piece_clean p (h p hp))
theorem calm_nofig {X : List UInt8} (h : calm X) : ∀ c, X.head? = some c → isFig c = false := fun c hc => (calm_fig c (h c hc)).1
theorem calm_no {X : List UInt8} (h : calm X) : X.head? ≠ some 123 ∧ X.head? ≠ some 43 := ⟨fun e => (calm_fig _ (h _ e)).2.1 rfl, fun e => (calm_fig _ (h _ e)).2.2 rfl⟩

/-- a line with its tail ends in no head -/
theorem line_plain {pend : List UInt8} (hp : pend ∈ pends) {ps : List (List UInt8)} (h : ∀ p ∈ ps, p ∈ pieceL) {t : List UInt8} (ht : t ∈ tailL) : clean (pend ++ ps.flatten ++ t) = true ∧ headOf (pend ++ ps.flatten ++ t) = none := by
  refine ⟨clean_append (line_clean hp h) (tail_clean t ht), ?_⟩
  obtain ⟨c1, c2⟩ := line_rev hp h
  unfold headOf
  rw [List.reverse_append]
  generalize (pend ++ ps.flatten).reverse = X at c1 c2 ⊢
  simp only [tailL, List.mem_cons, List.not_mem_nil, or_false] at ht
  rcases ht with rfl | rfl | rfl | rfl | rfl | rfl | rfl | rfl | rfl | rfl | rfl
  · show headR X = none
    cases X with
    | nil => rfl
    | cons c Y =>
      by_cases hc : c = 125
      · subst hc
        have cY := c2 Y rfl
        exact headR_open (r2 := Y) (fs := []) (rest := Y) (by rw [if_neg (calm_no cY).2]) rfl (by simp) (calm_nofig cY) (fun q => by simp at q)
      · exact headR_other hc
  · exact headR_open (r := 123 :: X) (fs := []) (rest := 123 :: X) rfl rfl (by simp) (by intro c hc; simp at hc; subst hc; decide) (fun q => by simp at q)
  · exact headR_open (r := 43 :: 123 :: X) (fs := []) (rest := 123 :: X) rfl rfl (by simp) (by intro c hc; simp at hc; subst hc; decide) (fun q => by simp at q)
  · exact headR_open (r := [49, 48, 57, 56, 55, 54, 53, 52, 51, 50, 49] ++ 123 :: X) (fs := [49, 48, 57, 56, 55, 54, 53, 52, 51, 50, 49]) (rest := 123 :: X) rfl rfl (by decide) (by intro c hc; simp at hc; subst hc; decide) (fun q => by simp at q)
  · exact headR_other (by decide)
  · exact headR_open (r := 53 :: X) (fs := [53]) (rest := X) rfl rfl (by decide) (calm_nofig c1) (fun q => (calm_no c1).1 q.1)
  · exact headR_open (r := 43 :: 43 :: 53 :: 123 :: X) (fs := []) (rest := 43 :: 53 :: 123 :: X) rfl rfl (by simp) (by intro c hc; simp at hc; subst hc; decide) (fun q => by simp at q)
  · exact headR_open (r := 49 :: 45 :: 123 :: X) (fs := [49]) (rest := 45 :: 123 :: X) rfl rfl (by decide) (by intro c hc; simp at hc; subst hc; decide) (fun q => by simp at q)
  · exact headR_open (r := 32 :: 53 :: 123 :: X) (fs := []) (rest := 32 :: 53 :: 123 :: X) rfl rfl (by simp) (by intro c hc; simp at hc; subst hc; decide) (fun q => by simp at q)
  · exact headR_other (by decide)
  · exact headR_open (r := 43 :: X) (fs := []) (rest := X) rfl rfl (by simp) (calm_nofig c1) (fun q => by simp at q)

theorem fig13 (c : UInt8) (h : isFig c = true) : c ≠ 13 ∧ c ≠ 43 := by
  constructor <;> rintro rfl <;> revert h <;> decide
/-- a line with a head -/
theorem line_head {pend : List UInt8} (hp : pend ∈ pends) {ps : List (List UInt8)} (h : ∀ p ∈ ps, p ∈ pieceL) {z n : Nat} (w : Bool) (hz : z ∈ [0, 1, 8]) (hn : n ≤ 27) :
    clean (pend ++ ps.flatten ++ ([123] ++ figsOf z n ++ (if w = true then [125] else [43, 125]))) = true ∧ headOf (pend ++ ps.flatten ++ ([123] ++ figsOf z n ++ (if w = true then [125] else [43, 125]))) = some ((n : Int), w) := by
  have f := figs_facts hz hn
  refine ⟨clean_append (line_clean hp h) (clean_no13 fun c hc => ?_), ?_⟩
  · simp only [List.mem_append, List.mem_singleton] at hc
    rcases hc with (rfl | hc) | hc
    · decide
    · exact (fig13 c (f.2.2.2.1 c hc)).1
    · cases w <;> simp at hc
      · rcases hc with rfl | rfl <;> decide
      · subst hc; decide
  · unfold headOf
    generalize pend ++ ps.flatten = x
    have hfs : ∀ c ∈ (figsOf z n).reverse, isFig c = true := fun c hc => f.2.2.2.1 c (List.mem_reverse.mp hc)
    have hrest : ∀ c, (123 :: x.reverse).head? = some c → isFig c = false := by intro c hc; simp at hc; subst hc; decide
    have hl : (figsOf z n).reverse.length = (figsOf z n).length := List.length_reverse
    cases w with
    | true =>
      have e : (x ++ ([123] ++ figsOf z n ++ (if true = true then [125] else [43, 125]))).reverse = 125 :: ((figsOf z n).reverse ++ 123 :: x.reverse) := by simp
      have h43 : ((figsOf z n).reverse ++ 123 :: x.reverse).head? ≠ some 43 := by
        cases hF : (figsOf z n).reverse with
        | nil => rw [hF] at hl; simp at hl; omega
        | cons c r =>
          intro q
          simp at q; subst q
          exact (fig13 43 (hfs 43 (by rw [hF]; simp))).2 rfl
      rw [e, headR_run (r2 := (figsOf z n).reverse ++ 123 :: x.reverse) (by rw [if_neg h43]) rfl hfs hrest, if_pos ⟨rfl, by omega, by omega⟩, List.reverse_reverse, f.2.2.2.2, decide_eq_false h43]
      rfl
    | false =>
      have e : (x ++ ([123] ++ figsOf z n ++ (if false = true then [125] else [43, 125]))).reverse = 125 :: (43 :: ((figsOf z n).reverse ++ 123 :: x.reverse)) := by simp
      rw [e, headR_run (r2 := (figsOf z n).reverse ++ 123 :: x.reverse) rfl rfl hfs hrest, if_pos ⟨rfl, by omega, by omega⟩, List.reverse_reverse, f.2.2.2.2]
      simp

theorem flat_snoc (l : List Seg) (s : Seg) : flat (l ++ [s]) = flat l ++ s.all := by simp [flat]
theorem hsOf_snoc : ∀ (l : List Seg) (s : Seg) (k : Nat), (∀ x ∈ l, x.Good) → hsOf k (l ++ [s]) = hsOf k l ++ [(k + (flat l).length + s.pre.length + 2, s.n, s.w)]
  | [], s, k, _ => by simp [hsOf, flat]
  | a :: l, s, k, g => by
    have ih := hsOf_snoc l s (k + a.pre.length + 2 + a.n) fun x hx => g x (.tail _ hx)
    have ef : (flat (a :: l)).length = a.pre.length + 2 + a.n + (flat l).length := by
      have := (g a (.head _)).len
      simp [flat, Seg.all]; omega
    show (k + a.pre.length + 2, a.n, a.w) :: hsOf (k + a.pre.length + 2 + a.n) (l ++ [s]) = _
    rw [ih, ef]
    show _ = (k + a.pre.length + 2, a.n, a.w) :: (hsOf (k + a.pre.length + 2 + a.n) l ++ _)
    congr 5
    omega
/-- a command's parts -/
theorem body_segs {i : Nat} {fd : List UInt8} {hs : List (Nat × Nat × Bool)} {bs : List Nat} (h : Body i fd hs bs) : ∃ l pend, pend ∈ pends ∧ (∀ s ∈ l, s.Good) ∧ fd = flat l ++ pend ∧ hs = hsOf 0 l := by
  induction h with
  | nil => exact ⟨[], _, by decide, by simp, rfl, rfl⟩
  | @lit i fd hs bs ps cs z w _ h1 h2 h3 h4 h5 ih =>
    obtain ⟨l, pend, hp, g, rfl, rfl⟩ := ih
    have hn := content_le h3 h4
    obtain ⟨hc, hh⟩ := line_head hp h2 w h5 hn
    refine ⟨l ++ [⟨pend ++ ps.flatten ++ ([123] ++ figsOf z cs.flatten.length ++ (if w = true then [125] else [43, 125])), cs.flatten.length, w, cs.flatten⟩], [], by decide, ?_, ?_, ?_⟩
    · intro s hs
      rcases List.mem_append.mp hs with hs | hs
      · exact g s hs
      · rw [List.mem_singleton.mp hs]; exact ⟨hc, hh, rfl⟩
    · rw [flat_snoc]
      simp [Seg.all, headB]
    · rw [hsOf_snoc _ _ _ g]
      refine congrArg (fun x => hsOf 0 l ++ [(x, cs.flatten.length, w)]) ?_
      simp only [headB, List.length_append, List.length_cons, List.length_nil]
      omega
theorem cmd_segs {fd : List UInt8} {hs : List (Nat × Nat × Bool)} {bs : List Nat} (h : Cmd fd hs bs) : ∃ l lst, clean lst = true ∧ headOf lst = none ∧ (∀ s ∈ l, s.Good) ∧ fd = flat l ++ (lst ++ [13, 10]) ∧ hs = hsOf 0 l := by
  obtain ⟨i, fd', ps, t, hi, hb, h1, h2, h3, rfl⟩ := h
  obtain ⟨l, pend, hp, g, rfl, rfl⟩ := body_segs hb
  obtain ⟨hc, hh⟩ := line_plain hp h2 h3
  exact ⟨l, pend ++ ps.flatten ++ t, hc, hh, g, by simp, rfl⟩
end

section
open PySem PySem.W PySem.Calls PyProof.Rows
set_option maxRecDepth 100000
set_option linter.unusedVariables false
abbrev Hd := Nat × Nat × Bool
def shift (k : Nat) (p : Hd) : Hd := (k + p.1, p.2)
theorem hsOf_shift : ∀ (l : List Seg) (k j : Nat), hsOf (k + j) l = (hsOf j l).map (shift k)
  | [], _, _ => rfl
  | s :: r, k, j => by
    show (k + j + s.pre.length + 2, s.n, s.w) :: hsOf (k + j + s.pre.length + 2 + s.n) r = shift k (j + s.pre.length + 2, s.n, s.w) :: (hsOf (j + s.pre.length + 2 + s.n) r).map (shift k)
    rw [← hsOf_shift r k (j + s.pre.length + 2 + s.n)]
    have e1 : k + j + s.pre.length + 2 + s.n = k + (j + s.pre.length + 2 + s.n) := by omega
    have e2 : k + j + s.pre.length + 2 = k + (j + s.pre.length + 2) := by omega
    rw [e1, e2]; rfl
theorem hsOf_keys : ∀ (l : List Seg) (k : Nat), ((hsOf k l).map (·.1)).Nodup
  | [], _ => List.nodup_nil
  | s :: r, k => by
    show ((k + s.pre.length + 2) :: (hsOf (k + s.pre.length + 2 + s.n) r).map (·.1)).Nodup
    rw [List.nodup_cons]
    refine ⟨fun h => ?_, hsOf_keys r _⟩
    obtain ⟨p, hp, e⟩ := List.mem_map.mp h
    have := hsOf_above p hp
    omega
/-- what is told of a command's heads -/
theorem cmd_heads {fd : List UInt8} {hs : List Hd} {bs : List Nat} (h : Cmd fd hs bs) : (∀ p ∈ hs, 2 ≤ p.1 ∧ p.1 < fd.length) ∧ (hs.map (·.1)).Nodup := by
  obtain ⟨l, lst, hc, hh, g, rfl, rfl⟩ := cmd_segs h
  refine ⟨fun p hp => ⟨by have := hsOf_above p hp; omega, ?_⟩, hsOf_keys l 0⟩
  have := hsOf_below g p hp
  simp only [List.length_append, List.length_cons, List.length_nil]
  omega
theorem cmd_end {fd : List UInt8} {hs : List Hd} {bs : List Nat} (h : Cmd fd hs bs) {k m : Nat} {p rest : List UInt8} (hk : k + m = p.length) (hp : p.drop k = (fd ++ rest).take m) :
    (fd.length ≤ m → End p k ((k + fd.length : Nat) : Int) none) ∧ (m < fd.length → End p k (-1) (wantOf (hs.map (shift k)) p.length)) := by
  obtain ⟨l, lst, hc, hh, g, rfl, rfl⟩ := cmd_segs h
  have hp' : p.drop k = (flat l ++ (lst ++ 13 :: 10 :: rest)).take m := by rw [hp]; simp
  obtain ⟨i1, i2⟩ := end_run hc hh l k m p rest g hk hp'
  have el : (flat l ++ (lst ++ [13, 10])).length = (flat l).length + lst.length + 2 := by simp; omega
  have es : hsOf k l = (hsOf 0 l).map (shift k) := hsOf_shift l k 0
  rw [el, ← es]
  exact ⟨i1, i2⟩

abbrev Doc := List (List UInt8 × List Hd)
def Doc.Ok (ds : Doc) : Prop := ∀ x ∈ ds, ∃ bs, Cmd x.1 x.2 bs
def dataOf (ds : Doc) : List UInt8 := (ds.map (·.1)).flatten
def offs (k : Nat) : Doc → List (Nat × List UInt8)
  | [] => []
  | x :: r => (k, x.1) :: offs (k + x.1.length) r
def headsFrom (k : Nat) : Doc → List Hd
  | [] => []
  | x :: r => x.2.map (shift k) ++ headsFrom (k + x.1.length) r
theorem dataOf_cons (x : List UInt8 × List Hd) (r : Doc) : dataOf (x :: r) = x.1 ++ dataOf r := by simp [dataOf]
theorem dataOf_snoc (r : Doc) (x : List UInt8 × List Hd) : dataOf (r ++ [x]) = dataOf r ++ x.1 := by simp [dataOf]
theorem offs_snoc : ∀ (r : Doc) (x : List UInt8 × List Hd) (k : Nat), offs k (r ++ [x]) = offs k r ++ [(k + (dataOf r).length, x.1)]
  | [], x, k => rfl
  | y :: r, x, k => by
    show (k, y.1) :: offs (k + y.1.length) (r ++ [x]) = (k, y.1) :: (offs (k + y.1.length) r ++ _)
    rw [offs_snoc r x, dataOf_cons, List.length_append, Nat.add_assoc]
theorem headsFrom_snoc : ∀ (r : Doc) (x : List UInt8 × List Hd) (k : Nat), headsFrom k (r ++ [x]) = headsFrom k r ++ x.2.map (shift (k + (dataOf r).length))
  | [], x, k => by
    show x.2.map (shift k) ++ [] = [] ++ x.2.map (shift (k + 0))
    rw [List.append_nil]; rfl
  | y :: r, x, k => by
    show y.2.map (shift k) ++ headsFrom (k + y.1.length) (r ++ [x]) = y.2.map (shift k) ++ headsFrom (k + y.1.length) r ++ _
    rw [headsFrom_snoc r x, dataOf_cons, List.length_append, List.append_assoc, Nat.add_assoc]
theorem offs_ge : ∀ (r : Doc) (k : Nat), ∀ q ∈ offs k r, k ≤ q.1
  | [], _, q, h => by cases h
  | x :: r, k, q, h => by
    rcases List.mem_cons.mp h with rfl | h
    · exact Nat.le_refl _
    · have := offs_ge r _ q h; omega
theorem headsFrom_in : ∀ {r : Doc} {k : Nat}, r.Ok → ∀ p ∈ headsFrom k r, k < p.1 ∧ p.1 < k + (dataOf r).length
  | [], _, _, p, h => by cases h
  | x :: r, k, g, p, h => by
    obtain ⟨bs, hb⟩ := g x (.head _)
    rw [dataOf_cons, List.length_append]
    rcases List.mem_append.mp h with h | h
    · obtain ⟨q, hq, rfl⟩ := List.mem_map.mp h
      have := (cmd_heads hb).1 q hq
      show k < k + q.1 ∧ k + q.1 < _
      omega
    · have := headsFrom_in (fun y hy => g y (.tail _ hy)) p h
      omega

/-- the commands that are whole where the data end at c -/
def wholes (c k : Nat) (ds : Doc) : List (List UInt8) := ((offs k ds).filter fun q => decide (q.1 + q.2.length ≤ c)).map (·.2)
def due (c : Nat) (q : Nat × List UInt8) : Int := if q.1 + q.2.length ≤ c then ((q.1 + q.2.length : Nat) : Int) else -1
theorem wholes_none {c : Nat} : ∀ {ds : Doc} {k : Nat}, c < k → wholes c k ds = []
  | [], _, _ => rfl
  | x :: r, k, h => by
    show (List.filter _ ((k, x.1) :: offs (k + x.1.length) r)).map _ = []
    rw [List.filter_cons_of_neg (by simp; omega)]
    exact wholes_none (by omega)

theorem doc_run {c : Nat} {p : List UInt8} (hc : p.length = c) : ∀ (ds : Doc) (k : Nat), ds.Ok → k ≤ c → p.drop k = (dataOf ds).take (c - k) →
    Split p k (wholes c k ds) (p.drop (k + (wholes c k ds).flatten.length)) ∧ k + (wholes c k ds).flatten.length ≤ c ∧ Wanted p k (wantOf (headsFrom k ds) c) ∧ ∀ q ∈ offs k ds, q.1 ≤ c → ∃ o, End p q.1 (due c q) o
  | [], k, _, hk, hp => by
    have hE : End p k (-1) none := .none (by rw [hp]; simp [dataOf, crlf])
    exact ⟨.stop hE, hk, .stop hE, fun q hq => by cases hq⟩
  | x :: r, k, g, hk, hp => by
    obtain ⟨bs, hb⟩ := g x (.head _)
    rw [dataOf_cons] at hp
    obtain ⟨i1, i2⟩ := cmd_end hb (k := k) (m := c - k) (p := p) (rest := dataOf r) (by omega) hp
    by_cases hf : x.1.length ≤ c - k
    · have hE := i1 hf
      have hd : p.drop (k + x.1.length) = (dataOf r).take (c - (k + x.1.length)) := by
        rw [← List.drop_drop, hp, List.drop_take, List.drop_append, List.drop_eq_nil_of_le (Nat.le_refl _)]
        simp only [Nat.sub_self, List.drop_zero, List.nil_append]
        congr 1; omega
      obtain ⟨j1, j2, j3, j4⟩ := doc_run hc r (k + x.1.length) (fun y hy => g y (.tail _ hy)) (by omega) hd
      have ew : wholes c k (x :: r) = x.1 :: wholes c (k + x.1.length) r := by
        show (List.filter _ ((k, x.1) :: offs (k + x.1.length) r)).map _ = _
        rw [List.filter_cons_of_pos (by simp; omega)]; rfl
      have el : k + (wholes c k (x :: r)).flatten.length = k + x.1.length + (wholes c (k + x.1.length) r).flatten.length := by
        rw [ew]; simp; omega
      refine ⟨?_, by rw [el]; exact j2, ?_, ?_⟩
      · rw [el, ew]
        have hcut : (p.drop k).take (k + x.1.length - k) = x.1 := by
          rw [hp, List.take_take, Nat.add_sub_cancel_left, Nat.min_eq_left hf, List.take_append_of_le_length (Nat.le_refl _), List.take_length]
        have := Split.go hE j1
        rw [hcut] at this
        exact this
      · refine .go hE ?_
        show Wanted p _ (wantOf (x.2.map (shift k) ++ headsFrom (k + x.1.length) r) c)
        rw [wantOf_right]
        · exact j3
        · intro q hq
          obtain ⟨y, hy, rfl⟩ := List.mem_map.mp hq
          have := ((cmd_heads hb).1 y hy).2
          show k + y.1 ≠ c
          omega
      · intro q hq hqc
        rcases List.mem_cons.mp hq with rfl | hq
        · refine ⟨none, ?_⟩
          unfold due
          rw [if_pos (by show k + x.1.length ≤ c; omega)]
          exact hE
        · exact j4 q hq hqc
    · have hE := i2 (by omega)
      rw [hc] at hE
      have ew : wholes c k (x :: r) = [] := by
        show (List.filter _ ((k, x.1) :: offs (k + x.1.length) r)).map _ = _
        rw [List.filter_cons_of_neg (by simp; omega)]
        exact wholes_none (ds := r) (by omega)
      rw [ew]
      refine ⟨.stop hE, hk, .stop ?_, ?_⟩
      · show End p k (-1) (wantOf (x.2.map (shift k) ++ headsFrom (k + x.1.length) r) c)
        rw [wantOf_left]
        · exact hE
        · intro q hq
          have := headsFrom_in (fun y hy => g y (.tail _ hy)) q hq
          omega
      · intro q hq hqc
        rcases List.mem_cons.mp hq with rfl | hq
        · refine ⟨wantOf (x.2.map (shift k)) c, ?_⟩
          unfold due
          rw [if_neg (by show ¬ k + x.1.length ≤ c; omega)]
          exact hE
        · have := offs_ge r _ q hq; omega
/-- the law's heads, as its dict holds them -/
def dctOf (hs : List Hd) : List (Int × AV) := hs.map fun p => ((p.1 : Int), .tup [.int p.2.1, .bool p.2.2])
theorem dct_find (hs : List Hd) (c : Nat) : (((dctOf hs).find? fun p => p.1 = (c : Int)).map (·.2)).getD AV.none = hv (wantOf hs c) := by
  unfold wantOf dctOf
  induction hs with
  | nil => rfl
  | cons p r ih =>
    simp only [List.map_cons, List.find?_cons]
    by_cases h : p.1 = c
    · have h' : (p.1 : Int) = (c : Int) := by omega
      simp [h, hv]
    · have h' : ¬ (p.1 : Int) = (c : Int) := by omega
      simp only [h, h', decide_false]
      exact ih
end

section
open PySem PySem.W PySem.Calls PyProof.Rows
set_option maxRecDepth 100000
set_option linter.unusedVariables false
def cAV (q : Nat × List UInt8) : AV := .tup [.int q.1, .byt q.2]
theorem take_step {α : Type} {l : List α} {j : Nat} {d : α} (h : j < l.length) : l.take (j + 1) = l.take j ++ [l.getD j d] := by
  rw [List.take_add_one, List.getD_eq_getElem?_getD, List.getElem?_eq_getElem h]; rfl
theorem head_item {hs : List Hd} {j : Nat} (h : j < hs.length) : (hs.map hAV).getD j AV.none = .tup [.int ((hs.getD j (0, 0, false)).1 : Int), .tup [.int ((hs.getD j (0, 0, false)).2.1 : Int), .bool (hs.getD j (0, 0, false)).2.2]] := by
  simp [List.getD_eq_getElem?_getD, h, hAV]
theorem nat_item {bs : List Nat} {j : Nat} (h : j < bs.length) : (bs.map nAV).getD j AV.none = .int ((bs.getD j 0 : Nat) : Int) := by
  simp [List.getD_eq_getElem?_getD, h, nAV]
theorem nats_at {bs : List Nat} {j : Nat} (h : j < bs.length) : (bs.map nAV)[((j : Nat) : Int).toNat]? = some (.int ((bs.getD j 0 : Nat) : Int)) := by
  simp [List.getD_eq_getElem?_getD, h, nAV]
theorem cmd_item {l : List (Nat × List UInt8)} {j : Nat} (h : j < l.length) : (l.map cAV).getD j AV.none = .tup [.int ((l.getD j (0, [])).1 : Int), .byt (l.getD j (0, [])).2] := by
  simp [List.getD_eq_getElem?_getD, h, cAV]
theorem borders_step {bs : List Nat} {hs : List Hd} {off j : Nat} (h : j < hs.length) :
    (bs ++ (hs.take j).map fun p => off + p.1).map nAV ++ [AV.int ((off : Int) + ((hs.getD j (0, 0, false)).1 : Int))] = (bs ++ (hs.take (j + 1)).map fun p => off + p.1).map nAV := by
  rw [take_step (d := (0, 0, false)) h]
  simp [nAV]
theorem dct_step {hh hs : List Hd} {off j : Nat} (h : j < hs.length) :
    dctOf (hh ++ (hs.take j).map (shift off)) ++ [((off : Int) + ((hs.getD j (0, 0, false)).1 : Int), AV.tup [.int ((hs.getD j (0, 0, false)).2.1 : Int), .bool (hs.getD j (0, 0, false)).2.2])] = dctOf (hh ++ (hs.take (j + 1)).map (shift off)) := by
  rw [take_step (d := (0, 0, false)) h]
  simp [dctOf, shift]
theorem dct_new {hh hs : List Hd} {off j : Nat} (h : j < hs.length) (h1 : ∀ p ∈ hh, p.1 < off) (h2 : (hs.map (·.1)).Nodup) :
    ((off : Int) + ((hs.getD j (0, 0, false)).1 : Int)) ∉ (dctOf (hh ++ (hs.take j).map (shift off))).map (·.1) := by
  intro hm
  obtain ⟨x, hx, e⟩ := List.mem_map.mp hm
  obtain ⟨p, hp, rfl⟩ := List.mem_map.mp hx
  have e : (p.1 : Int) = (off : Int) + ((hs.getD j (0, 0, false)).1 : Int) := e
  rcases List.mem_append.mp hp with hp | hp
  · have := h1 p hp; omega
  · obtain ⟨q, hq, rfl⟩ := List.mem_map.mp hp
    have e : ((off + q.1 : Nat) : Int) = (off : Int) + ((hs.getD j (0, 0, false)).1 : Int) := e
    have e2 : q.1 = (hs.getD j (0, 0, false)).1 := by omega
    rw [← List.take_append_drop j hs, List.map_append] at h2
    have h3 := (List.nodup_append.mp h2).2.2
    refine h3 q.1 (List.mem_map_of_mem hq) (hs.getD j (0, 0, false)).1 (List.mem_map_of_mem ?_) e2
    rw [List.getD_eq_getElem?_getD, List.getElem?_eq_getElem h, List.drop_eq_getElem_cons h]
    exact .head _
theorem extend_step {bs bs' : List Nat} {off : Nat} : bs.map nAV ++ (bs'.map fun (x : Nat) => AV.int ((off : Int) + (x : Int))) = (bs ++ bs'.map fun x => off + x).map nAV := by
  simp [nAV]
theorem take_map_step {bs : List Nat} {off i : Nat} (h : i < bs.length) : ((bs.take i).map fun (x : Nat) => AV.int ((off : Int) + (x : Int))) ++ [AV.int ((off : Int) + ((bs.getD i 0 : Nat) : Int))] = (bs.take (i + 1)).map fun (x : Nat) => AV.int ((off : Int) + (x : Int)) := by
  rw [take_step (d := 0) h]; simp
theorem nat_snoc {bs : List Nat} {x : Nat} {i : Int} (h : i = (x : Int)) : bs.map nAV ++ [AV.int i] = (bs ++ [x]).map nAV := by
  subst h; simp [nAV]
theorem Doc.snoc {ds : Doc} {fd : List UInt8} {hs : List Hd} {bs : List Nat} (h : ds.Ok) (hc : Cmd fd hs bs) : Doc.Ok (ds ++ [(fd, hs)]) := fun x hx => by
  rcases List.mem_append.mp hx with hx | hx
  · exact h x hx
  · rw [List.mem_singleton.mp hx]; exact ⟨bs, hc⟩
theorem heads_low {ds : Doc} (h : ds.Ok) : ∀ p ∈ headsFrom 0 ds, p.1 < (dataOf ds).length := fun p hp => by
  have := headsFrom_in h p hp; omega
theorem heads_len : ∀ {ds : Doc} {k : Nat}, ds.Ok → (headsFrom k ds).length ≤ 2 * (offs k ds).length
  | [], _, _ => Nat.le_refl _
  | x :: r, k, h => by
    obtain ⟨bs, hb⟩ := h x (.head _)
    have := hb.len
    have ih := heads_len (ds := r) (k := k + x.1.length) fun y hy => h y (.tail _ hy)
    show (x.2.map (shift k) ++ headsFrom (k + x.1.length) r).length ≤ 2 * ((offs (k + x.1.length) r).length + 1)
    rw [List.length_append, List.length_map]; omega
theorem clamp (x : Int) (N : Nat) : ∃ c : Nat, c ≤ N ∧ (if (N : Int) < (if (0 : Int) > x then 0 else x) then (N : Int) else (if (0 : Int) > x then 0 else x)) = (c : Int) := by
  by_cases h : (0 : Int) > x
  · exact ⟨0, Nat.zero_le _, by rw [if_pos h, if_neg (by omega)]; rfl⟩
  · by_cases h2 : (N : Int) < x
    · exact ⟨N, Nat.le_refl _, by rw [if_neg h, if_pos h2]⟩
    · exact ⟨x.toNat, by omega, by rw [if_neg h, if_neg h2]; omega⟩
theorem offs_len : ∀ {ds : Doc} {k : Nat}, ∀ q ∈ offs k ds, q.1 + q.2.length ≤ k + (dataOf ds).length
  | [], _, q, h => by cases h
  | x :: r, k, q, h => by
    rw [dataOf_cons, List.length_append]
    rcases List.mem_cons.mp h with rfl | h
    · show k + x.1.length ≤ _; omega
    · have := offs_len q h; omega
def wholeAV (c : Nat) (l : List (Nat × List UInt8)) : List AV := (l.filter fun q => decide (q.1 + q.2.length ≤ c)).map fun q => AV.byt q.2
theorem whole_in {c j : Nat} {l : List (Nat × List UInt8)} (h : j < l.length) (hc : (l.getD j (0, [])).1 + (l.getD j (0, [])).2.length ≤ c) : wholeAV c (l.take j) ++ [AV.byt (l.getD j (0, [])).2] = wholeAV c (l.take (j + 1)) := by
  rw [take_step (d := (0, [])) h]
  unfold wholeAV
  rw [List.filter_append, List.map_append, List.filter_cons_of_pos (by simpa using hc)]
  rfl
theorem whole_out {c j : Nat} {l : List (Nat × List UInt8)} (h : j < l.length) (hc : ¬ (l.getD j (0, [])).1 + (l.getD j (0, [])).2.length ≤ c) : wholeAV c (l.take j) = wholeAV c (l.take (j + 1)) := by
  rw [take_step (d := (0, [])) h]
  unfold wholeAV
  rw [List.filter_append, List.map_append, List.filter_cons_of_neg (by simpa using hc)]
  simp
theorem whole_byt {c k : Nat} {ds : Doc} : wholeAV c (offs k ds) = (wholes c k ds).map AV.byt := by
  unfold wholeAV wholes
  rw [List.map_map]; rfl
theorem whole_len (c : Nat) (l : List (Nat × List UInt8)) (j : Nat) : (wholeAV c (l.take j)).length ≤ j := by
  unfold wholeAV
  rw [List.length_map]
  exact Nat.le_trans (List.length_filter_le _ _) (List.length_take_le _ _)
theorem lens_step {wh : List (List UInt8)} {j : Nat} (h : j < wh.length) : ((wh.take j).map fun (x : List UInt8) => AV.int (x.length : Int)) ++ [AV.int (((wh.getD j []).length : Nat) : Int)] = (wh.take (j + 1)).map fun (x : List UInt8) => AV.int (x.length : Int) := by
  rw [take_step (d := []) h]; simp
theorem lens_ints (wh : List (List UInt8)) : (wh.map fun (x : List UInt8) => AV.int (x.length : Int)) = (wh.map fun (x : List UInt8) => (x.length : Int)).map AV.int := by
  rw [List.map_map]; rfl
theorem sum_lens (wh : List (List UInt8)) : (wh.map fun (x : List UInt8) => (x.length : Int)).sum = (wh.flatten.length : Int) := by
  induction wh with
  | nil => rfl
  | cons x r ih => rw [List.map_cons, List.sum_cons, ih, List.flatten_cons, List.length_append]; push_cast; rfl
theorem due_yes {c : Nat} {q : Nat × List UInt8} (h : q.1 + q.2.length ≤ c) : (q.1 : Int) + (q.2.length : Int) = due c q := by
  unfold due; rw [if_pos h]; push_cast; rfl
theorem due_no {c : Nat} {q : Nat × List UInt8} (h : ¬ q.1 + q.2.length ≤ c) : (-1 : Int) = due c q := by
  unfold due; rw [if_neg h]
theorem lens_item {wh : List (List UInt8)} {j : Nat} (h : j < wh.length) : (wh.map AV.byt).getD j AV.none = .byt (wh.getD j []) := getD_byts h
theorem wholes_len (c k : Nat) (ds : Doc) : (wholes c k ds).length ≤ (offs k ds).length := by
  unfold wholes; rw [List.length_map]; exact List.length_filter_le _ _
theorem flat_item {wh : List (List UInt8)} {x : List UInt8} (h : x ∈ wh) : x.length ≤ wh.flatten.length := by
  induction wh with
  | nil => cases h
  | cons y r ih =>
    rw [List.flatten_cons, List.length_append]
    rcases List.mem_cons.mp h with rfl | h
    · omega
    · have := ih h; omega
theorem deps_byts : ∀ wh : List (List UInt8), deps (wh.map AV.byt) = 0
  | [] => by rw [List.map_nil, deps]
  | x :: r => by simp [deps, dep, deps_byts r]
section
variable {prog : Program} {w : World} {s₀ s : Shared} {A : Around} {Γ Γ' : Led}
theorem C_neHv {o : Option (Int × Bool)} {Q : AV → Led → Prop} (hu : A.units + 2 < cLine) (h : Q (.bool false) Γ) : W2 prog w s₀ A VR (compareOp .NotEq) (hv o) (hv o) Γ Q := by
  cases o with
  | none => exact C_neN h
  | some p => exact C_neT (by simp only [dep, deps]; omega) h
/-- a comprehension that leaves the ledger as it is -/
theorem CompOk.still {env : Env} {elt target : Expr} {ifs : List Expr} {scope : Scope} {cl : List (PySem.Str × Addr)} {xs : List PySem.Str} {Fin : List AV → Led → Prop} {x : AV} {Γ₁ : Led} {n : Nat} {src : Led → Prop} {at_ : Nat → AO} {item : Nat → AV}
    (P : Nat → List AV → Prop) (o : Over x Γ₁ n src at_ item) (tok : TargetOk n at_ item target) (hz : n ≤ sizeLine) (h0 : P 0 []) (hlen : ∀ i ys, P i ys → ys.length ≤ i)
    (turn : ∀ C D I i ys, i < n → P i ys → W1 prog w s₀ A UR (fun v => assign target (compEnvC scope cl C env) v) (item i) ((I, at_ (i + 1)) :: (C, blank xs) :: (D, .lst ys) :: Γ₁) fun _ Γ₃ =>
      IfsOk prog w s₀ A ifs (compEnvC scope cl C env) Γ₃ fun b Γ₄ => if b then Wp prog w s₀ A VR (eval elt (compEnvC scope cl C env)) Γ₄ (fun y Γ₅ => ∃ ρ, List.Sublist ((I, at_ (i + 1)) :: (C, .ns ρ) :: (D, .lst ys) :: Γ₁) Γ₅ ∧ P (i + 1) (ys ++ [y]))
        else ∃ ρ, List.Sublist ((I, at_ (i + 1)) :: (C, .ns ρ) :: (D, .lst ys) :: Γ₁) Γ₄ ∧ P (i + 1) ys)
    (fin : ∀ ys, P n ys → Fin ys Γ₁) : CompOk prog w s₀ A env elt target ifs scope cl xs Fin x Γ₁ := by
  refine ⟨n, src, at_, item, o, tok, hz, fun i ys Γ' => P i ys ∧ Γ₁ = Γ', ⟨h0, rfl⟩, ?_, fun i ys _ h => hlen i ys h.1, ?_, ?_⟩
  · rintro i ys _ ⟨_, rfl⟩; exact o.src
  · rintro C D I i ys _ hi ⟨hp, rfl⟩
    intro s v S r
    refine wpAny_mono (turn C D I i ys hi hp s v S r) (fun _ s' h => ?_) fun _ _ e => e
    refine h.mono fun _ Γ₃ hk => ?_
    have key : ∀ b Γ₄, (if b = true then Wp prog w s₀ A VR (eval elt (compEnvC scope cl C env)) Γ₄ (fun y Γ₅ => ∃ ρ, List.Sublist ((I, at_ (i + 1)) :: (C, .ns ρ) :: (D, .lst ys) :: Γ₁) Γ₅ ∧ P (i + 1) (ys ++ [y]))
        else ∃ ρ, List.Sublist ((I, at_ (i + 1)) :: (C, .ns ρ) :: (D, .lst ys) :: Γ₁) Γ₄ ∧ P (i + 1) ys) →
      if b = true then Wp prog w s₀ A VR (eval elt (compEnvC scope cl C env)) Γ₄ (fun y Γ₅ => ∃ ρ Γ₆, List.Sublist ((I, at_ (i + 1)) :: (C, .ns ρ) :: (D, .lst ys) :: Γ₆) Γ₅ ∧ (P (i + 1) (ys ++ [y]) ∧ Γ₁ = Γ₆))
        else ∃ ρ Γ₆, List.Sublist ((I, at_ (i + 1)) :: (C, .ns ρ) :: (D, .lst ys) :: Γ₆) Γ₄ ∧ (P (i + 1) ys ∧ Γ₁ = Γ₆) := by
      intro b Γ₄ h
      cases b with
      | true =>
        rw [if_pos rfl] at h ⊢
        exact h.mono fun y Γ₅ ⟨ρ, hs, hp⟩ => ⟨ρ, _, hs, hp, rfl⟩
      | false =>
        rw [if_neg Bool.false_ne_true] at h ⊢
        obtain ⟨ρ, hs, hp⟩ := h
        exact ⟨ρ, _, hs, hp, rfl⟩
    cases ifs with
    | nil => exact key true Γ₃ hk
    | cons t r =>
      cases r with
      | nil => exact Wp.mono hk key
      | cons _ _ => exact hk
  · rintro ys _ ⟨hp, rfl⟩; exact fin ys hp
end
end

section
open PySem PySem.W PySem.Calls PyProof.Rows
set_option maxRecDepth 100000
set_option linter.unusedVariables false
local macro_rules | `(tactic| walk_at "mem") => `(tactic| first | exact List.Mem.head _ | with_reducible assumption | (refine List.mem_cons_of_mem _ ?_; walk_at "mem"))
local macro_rules | `(tactic| walk_at "put") => `(tactic| first | with_reducible exact Put.head | ((with_reducible refine' Put.tail ?a); (case a => walk_at "put")))
local macro_rules | `(tactic| walk_at "spot") => `(tactic| first | exact Spot.head | ((with_reducible refine' Spot.hole ?a); (case a => assumption)) | ((with_reducible refine' Spot.tail ?a); (case a => walk_at "spot")))
local macro_rules | `(tactic| walk_at "upd") => `(tactic| first | with_reducible exact Upd.head | ((with_reducible refine' Upd.tail ?a); (case a => walk_at "upd")))
local macro_rules | `(tactic| walk_at "sub") => `(tactic| first | exact List.Sublist.refl _ | (refine List.Sublist.cons_cons _ ?_; walk_at "sub") | (refine List.Sublist.cons _ ?_; walk_at "sub"))
local macro_rules | `(tactic| walk_at "m.name") => `(tactic| first
  | ((with_reducible refine' E_local ?h1 ?h2 ?h3 ?h4 ?h5 ?h6); (case h1 => rfl); (case h2 => rfl); (case h3 => walk_at "mem"); (case h4 => walk_at "mem"); (case h5 => rfl))
  | ((with_reducible refine' E_cell ?h1 ?h2 ?h3 ?h4 ?h5 ?h6); (case h1 => rfl); (case h2 => rfl); (case h3 => rfl); (case h4 => walk_at "mem"); (case h5 => rfl)))
local macro_rules | `(tactic| walk_at "updl") => `(tactic| first | exact Upd.head | (refine' Upd.tail ?a; (case a => walk_at "updl")))
local macro_rules | `(tactic| walk_at "m.store") => `(tactic| first
  | ((with_reducible refine' S_local ?h1 ?h2 ?h3 ?h4 ?h5); (case h1 => rfl); (case h2 => rfl); (case h3 => walk_at "updl"); (case h4 => walk_at "put"))
  | ((with_reducible refine' S_cell ?h1 ?h2 ?h3 ?h4 ?h5); (case h1 => rfl); (case h2 => rfl); (case h3 => rfl); (case h4 => walk_at "upd")))
local macro_rules | `(tactic| walk_at "m.op") => `(tactic| first
  | with_reducible refine O_add ?_ | with_reducible refine O_sub ?_ | with_reducible refine O_neg ?_
  | with_reducible refine C_le ?_ | with_reducible refine C_lt ?_ | with_reducible refine C_ge ?_ | with_reducible refine C_gt ?_ | with_reducible refine C_ne ?_ | with_reducible refine C_eq ?_
  | with_reducible refine C_isN ?_ | with_reducible refine C_isT ?_)
local macro_rules | `(tactic| walk_at "m.call") => `(tactic| (
  (with_reducible refine' E_callG ?G ?hn ?hkeep ?hk ?hx ?hg ?hd ?hc ?he ?hplain ?h);
  (case G => assumption);
  (case hn => first | exact g_is_figure _ | exact g_number _ | exact g_head _ | exact g_end _ | exact g_wanted _ | exact g_split _ | exact g_take _ | exact g_bag _ | exact g_line _ | exact g_command _);
  (case hkeep => rfl); (case hk => rfl); (case hx => rfl); (case hg => rfl); (case hd => rfl); (case hc => rfl); (case he => rfl); (case hplain => rfl)))
local macro_rules | `(tactic| walk_at "m.callb") => `(tactic| (
  (with_reducible refine' E_callN ?G ?hn ?hv ?hne ?hfv ?hk ?hx ?hg ?hb ?hd ?hc ?he ?hplain ?h);
  (case G => assumption);
  (case hn => first | exact n_len _ | exact n_range _ | exact n_bytes _ | exact n_str _ | exact n_min _ | exact n_max _ | exact n_sum _);
  (case hv => first | exact b_len | exact b_range | exact b_bytes | exact b_str | exact b_min | exact b_max | exact b_sum);
  (case hne => decide); (case hfv => rfl); (case hk => rfl); (case hx => rfl); (case hg => rfl); (case hb => rfl); (case hd => rfl); (case hc => rfl); (case he => rfl); (case hplain => rfl)))
local macro_rules | `(tactic| walk_at "m.eval") => `(tactic| first
  | with_reducible refine E_int ?_ | with_reducible refine E_bytes ?_ | with_reducible refine E_str ?_ | with_reducible refine E_none ?_ | with_reducible refine E_bool ?_
  | ((with_reducible show Wp _ _ _ _ _ (eval (Expr.Name _ _) _) _ _); walk_at "m.name")
  | with_reducible refine E_BinOp ?_ | with_reducible refine E_UnaryOp ?_ | with_reducible refine E_IfExp ?_
  | ((with_reducible refine' E_Compare ?h ?hm); (case hm => with_unfolding_all rfl))
  | ((with_reducible refine' E_Compare2 ?h ?hm); (case hm => with_unfolding_all rfl))
  | ((with_reducible show Wp _ _ _ _ _ (eval (Expr.Call (Expr.Name _ _) _ _ _) _) _ _); first | walk_at "m.call" | walk_at "m.callb")
  | with_reducible refine E_Or2 ?_
  | with_reducible refine E_tuple ?_ | with_reducible refine E_list ?_
  | ((with_reducible refine' E_sliceB ?h ?hs); (case hs => (intro _ _ _; with_unfolding_all rfl)))
  | with_reducible refine E_item ?_)
local macro_rules | `(tactic| walk_at "m.test") => `(tactic| first
  | ((with_reducible refine' T_Compare ?h ?hm); (case hm => with_unfolding_all rfl))
  | ((with_reducible refine' T_Compare2 ?h ?hm); (case hm => with_unfolding_all rfl))
  | with_reducible refine T_not ?_ | with_reducible refine T_or ?_ | with_reducible refine T_or_nil ?_ | with_reducible refine T_and ?_ | with_reducible refine T_and_nil ?_
  | ((with_reducible refine' T_plain ?h ?he); (case he => rfl)))
local macro_rules | `(tactic| walk_at "m.exec") => `(tactic| first
  | with_reducible refine X_nil ?_ | with_reducible refine X_return ?_ | with_reducible refine X_if ?_
  | ((with_reducible refine' X_assign ?h ?hs); (case hs => rfl))
  | ((with_reducible refine' X_expr ?h ?hi ?hs); (case hi => rfl); (case hs => rfl)))
local macro_rules | `(tactic| walk_at "m.assignT") => `(tactic| ((with_reducible refine' X_assignT ?h ?hs ?hw ?ha); (case hs => rfl); (case hw => rfl); (case ha => rfl)))
local macro_rules | `(tactic| walk_at "m.atuple") => `(tactic| ((with_reducible refine' A_tuple ?hh ?hn ?hstar ?h); (case hh => assumption); (case hn => rfl); (case hstar => rfl)))
local macro_rules | `(tactic| walk_at "e") => `(tactic| first
  | walk_at "m.eval" | walk_at "m.test" | walk_at "m.exec" | walk_at "m.op"
  | (with_reducible refine L_nil ?_) | ((with_reducible refine' L_cons ?h ?he); (case he => rfl))
  | (with_reducible refine boolThen ?_)
  | ((with_reducible show W1 _ _ _ _ _ (fun v => storeName _ _ v) _ _ _); walk_at "m.store")
  | (with_reducible refine then_next ?_) | (with_reducible refine then_ret ?_)
  | (with_reducible refine A_name ?_) | (with_reducible refine A_bind ?_) | (with_reducible refine AI_nil ?_) | (with_reducible refine AI_cons ?_) | (with_reducible refine AE_nil ?_) | ((with_reducible refine' AE_cons ?h ?he); (case he => rfl))
  | (with_reducible refine P_none ?_) | (with_reducible refine P_some ?_) | (with_reducible refine mid_ret ?_))
local macro_rules | `(tactic| walk_at "m") => `(tactic| first | walk_at "e" | with_reducible refine X_seq ?_)
local macro_rules | `(tactic| walk_at "rfl3") => `(tactic| (intro _ _ _; with_unfolding_all rfl))
local macro_rules | `(tactic| walk_at "rfl2") => `(tactic| (intro _ _; with_unfolding_all rfl))
local macro_rules | `(tactic| walk_at "def") => `(tactic| ((case hbind => (intro vs hvs; first | (match vs, hvs with | [_], _ => rfl) | (match vs, hvs with | [_, _], _ => rfl) | (match vs, hvs with | [_, _, _], _ => rfl))); (case hcd => rfl); (case hlen => rfl); (case hco => rfl); (case hgen => rfl); (case hk => rfl)))
local macro_rules | `(tactic| walk_at "def1") => `(tactic| ((case ho => rfl); walk_at "def"; (case hloc => decide); (case hcell => decide); (case nd => decide); (case hρ => rfl)))
local macro_rules | `(tactic| walk_at "m.for") => `(tactic| ((with_reducible refine' X_for ?hh ?h ?hs); (case hs => (intro _; rfl)); (case hh => assumption)))
local macro_rules | `(tactic| walk_at "m.find") => `(tactic| ((with_reducible refine' E_Meth (id := "bytes.find") ?h ?hc ?he ?hp); (case hc => rfl); (case he => rfl); (case hp => rfl)))
local macro_rules | `(tactic| walk_at "m.join") => `(tactic| ((with_reducible refine' E_Meth (id := "bytes.join") ?h ?hc ?he ?hp); (case hc => rfl); (case he => rfl); (case hp => rfl)))
local macro_rules | `(tactic| walk_at "m.encode") => `(tactic| ((with_reducible refine' E_Meth (id := "str.encode") ?h ?hc ?he ?hp); (case hc => rfl); (case he => rfl); (case hp => rfl)))
local macro_rules | `(tactic| walk_at "m.append") => `(tactic| ((with_reducible refine' E_Meth (id := "list.append") ?h ?hc ?he ?hp); (case hc => rfl); (case he => rfl); (case hp => rfl)))
local macro_rules | `(tactic| walk_at "m.extend") => `(tactic| ((with_reducible refine' E_Meth (id := "list.extend") ?h ?hc ?he ?hp); (case hc => rfl); (case he => rfl); (case hp => rfl)))
local macro_rules | `(tactic| walk_at "m.get") => `(tactic| ((with_reducible refine' E_Meth (id := "dict.get") ?h ?hc ?he ?hp); (case hc => rfl); (case he => rfl); (case hp => rfl)))
local macro_rules | `(tactic| walk_at "m.iarr") => `(tactic| ((with_reducible refine' I_arr ?hm ?h0 ?hi ?hx ?h ?hs); (case hm => walk_at "mem"); (case h0 => decide); (case hi => decide); (case hx => rfl); (case hs => walk_at "rfl2")))
local macro_rules | `(tactic| walk_at "def2") => `(tactic| ((case ho => rfl); walk_at "def"; (case hcs => (intro _; rfl)); (case hne => decide); (case ndn => decide); (case ndρ => first | decide | (simp only [List.map_cons, List.map_nil]; decide))))
local macro_rules | `(tactic| walk_at "m.comp") => `(tactic| ((case hh => assumption); (case hxs => decide); (case hclos => rfl); (case hcell => decide); (case hkind => rfl); (case hnames => decide); (case hs => (intro _; rfl))))
local macro_rules | `(tactic| walk_at "m.swap") => `(tactic| ((with_reducible refine' X_swap ?hh ?h ?hs ?hw); (case hh => assumption); (case hs => rfl); (case hw => rfl)))
section
variable {prog : Program} {w : World} {s₀ s : Shared} {A : Around} {Γ Γ' : Led}
theorem F_is_figure (G : Top0 w s₀) (hA : A.depth < 900) {c : Int} {Q : AV → Led → Prop} (h : Q (.bool (decide (48 ≤ c) && decide (c ≤ 57))) Γ) : WL prog w s₀ A VR (fun vs => call (.ref 21) vs) [.int c] Γ Q := by
  refine' K_plain G [PySem.Str.ofString "code"] [] [(PySem.Str.ofString "code", some (.int c))] hA ?ho ?hcd ?hlen ?hbind ?hloc ?hcell ?nd ?hco ?hgen ?hk ?hρ ?h
  walk_at "def1"
  intro L
  repeat' (walk_at "m")
  refine if_b (fun e => ?_) fun e => ?_
  · repeat' (walk_at "m")
    refine back_ret Γ (by walk_at "sub") ?_
    rw [e] at h; exact h
  · repeat' (walk_at "m")
    refine back_ret Γ (by walk_at "sub") ?_
    rw [e] at h; exact h
end
section
variable {prog : Program} {w : World} {s₀ s : Shared} {A : Around} {Γ Γ' : Led}
theorem mul_small {a b : Int} (h1 : -(2 ^ 64) < b) (h2 : b < 2 ^ 64) : IntMulOk a b := IntMulOk.of_right (intBits_le_64 h1 h2)
theorem numOf_step (b : List UInt8) (i : Nat) (hi : i < b.length) : numOf (b.take (i + 1)) = numOf (b.take i) * 10 + ((b.getD i 0).toNat : Int) - 48 := by
  unfold numOf
  rw [List.take_add_one, List.foldl_append]
  simp [hi, List.getD_eq_getElem?_getD]
theorem F_number (G : Top0 w s₀) (hA : A.depth < 900) (hh : A.handled = none) {b : List UInt8} {Q : AV → Led → Prop} (h : Q (.int (numOf b)) Γ) : WL prog w s₀ A VR (fun vs => call (.ref 28) vs) [.byt b] Γ Q := by
  refine' K_plain G [PySem.Str.ofString "octets"] [PySem.Str.ofString "number", PySem.Str.ofString "code"] [(PySem.Str.ofString "octets", some (.byt b)), (PySem.Str.ofString "number", none), (PySem.Str.ofString "code", none)] hA ?ho ?hcd ?hlen ?hbind ?hloc ?hcell ?nd ?hco ?hgen ?hk ?hρ ?h
  walk_at "def1"
  intro L
  repeat' (walk_at "m")
  walk_at "m.for"
  walk_at "m"
  refine ⟨_, _, _, _, Over.byt b _, TargetOk.name, fun i Γ' => ∃ o, Γ' = (L, AO.ns [(PySem.Str.ofString "octets", some (.byt b)), (PySem.Str.ofString "number", some (.int (numOf (b.take i)))), (PySem.Str.ofString "code", o)]) :: Γ, ⟨none, rfl⟩, fun _ _ _ => trivial, ?_, ?_⟩
  · rintro I i _ hi ⟨o, rfl⟩
    repeat' (walk_at "m")
    refine O_mul (mul_small (by decide) (by decide)) ?_
    repeat' (walk_at "m")
    refine turn_next _ (List.Sublist.refl _) ⟨_, rfl, some _, by rw [numOf_step b i hi]⟩
  · rintro _ ⟨o, rfl⟩
    repeat' (walk_at "m")
    rw [List.take_length]
    exact back_ret Γ (by walk_at "sub") h
end
section
variable {prog : Program} {w : World} {s₀ s : Shared} {A : Around} {Γ Γ' : Led}
abbrev nsHead (d : List UInt8) (b e : Nat) (here waits last figs : Option AV) : AO := .ns [(nm "data", some (.byt d)), (nm "begin", some (.int b)), (nm "end", some (.int e)), (nm "here", here), (nm "waits", waits), (nm "last", last), (nm "figures", figs)]
set_option maxHeartbeats 4000000 in
theorem F_head (G : Top0 w s₀) (hA : A.depth < 800) (hh : A.handled = none) {d : List UInt8} {b e : Nat} {Q : AV → Led → Prop} (hz : d.length ≤ 16777216) (hbe : b ≤ e) (hed : e ≤ d.length)
    (h : Q (hv (headOf ((d.take e).drop b))) Γ) : WL prog w s₀ A VR (fun vs => call (.ref 35) vs) [.byt d, .int b, .int e] Γ Q := by
  have h : Q (hv (headR (rs d b e))) Γ := h
  refine' K_plain G [nm "data", nm "begin", nm "end"] [nm "here", nm "waits", nm "last", nm "figures"] [(nm "data", some (.byt d)), (nm "begin", some (.int b)), (nm "end", some (.int e)), (nm "here", none), (nm "waits", none), (nm "last", none), (nm "figures", none)]
    (Nat.lt_trans hA (by decide)) ?ho ?hcd ?hlen ?hbind ?hloc ?hcell ?nd ?hco ?hgen ?hk ?hρ ?h
  walk_at "def1"
  intro L
  have hA' : ∀ env, (A.deeper env).depth < 900 := fun env => by show A.depth + 1 < 900; omega
  repeat' (walk_at "m")
  rcases Nat.eq_or_lt_of_le hbe with rfl | hlt
  · refine if_t (decide_eq_true (by omega)) ?_
    refine if_t rfl ?_
    repeat' (walk_at "m")
    refine back_ret Γ (by walk_at "sub") ?_
    rw [rs_self] at h; exact h
  obtain ⟨k, rfl⟩ : ∃ k, e = k + 1 := ⟨e - 1, by omega⟩
  have hk : b ≤ k := by omega
  rw [rs_succ d hk (by omega)] at h
  refine if_f (decide_eq_false (by omega)) ?_
  repeat' (walk_at "e")
  refine I_byt (c := d.getD k 0) (by omega) (by omega) (getD_at (by omega) (by omega)) ?_ (by walk_at "rfl3")
  repeat' (walk_at "e")
  by_cases hc : d.getD k 0 = 125
  rotate_left
  · refine if_t (by rw [show (125 : Int) = ((125 : UInt8).toNat : Int) from rfl, u_ne]; simp only [hc, decide_false, Bool.not_false]) ?_
    refine if_t rfl ?_
    repeat' (walk_at "m")
    refine back_ret Γ (by walk_at "sub") ?_
    rw [headR_other hc] at h; exact h
  rw [hc] at h
  refine if_f (by rw [hc]; rfl) ?_
  repeat' (walk_at "e")
  refine if_f rfl ?_
  repeat' (walk_at "e")
  refine X_seq ?_
  repeat' (walk_at "e")
  have e1 : ((k + 1 : Nat) : Int) - 1 - 1 = (k : Int) - 1 := by omega
  rw [e1]
  refine X_seqJ (fun Γ' => Γ' = (L, nsHead d b (k + 1) (some (.int ((k : Int) - 1))) (some (.bool (!decide ((rs d b k).head? = some 43)))) none none) :: Γ) ?_ ?_
  · repeat' (walk_at "e")
    rcases Nat.eq_or_lt_of_le hk with rfl | hlt2
    · refine if_t (decide_eq_true (by omega)) ?_
      repeat' (walk_at "e")
      refine mid_next ?_
      have e2 : decide ((b : Int) - 1 < b) = true := by simp; omega
      rw [e2, rs_self]; rfl
    · obtain ⟨j, rfl⟩ : ∃ j, k = j + 1 := ⟨k - 1, by omega⟩
      refine if_f (decide_eq_false (by omega)) ?_
      repeat' (walk_at "e")
      refine I_byt (c := d.getD j 0) (by omega) (by omega) (getD_at (by omega) (by omega)) ?_ (by walk_at "rfl3")
      repeat' (walk_at "e")
      refine mid_next ?_
      rw [show (43 : Int) = ((43 : UInt8).toNat : Int) from rfl, u_ne, rs_succ d (by omega) (by omega)]
      simp only [List.head?_cons, Option.some.injEq]
  rintro _ rfl
  refine X_seqJ (fun Γ' => ∃ m : Nat, b ≤ m ∧ m ≤ k ∧ rs d b m = (if (rs d b k).head? = some 43 then (rs d b k).tail else rs d b k) ∧
    Γ' = (L, nsHead d b (k + 1) (some (.int ((m : Int) - 1))) (some (.bool (!decide ((rs d b k).head? = some 43)))) none none) :: Γ) ?_ ?_
  · repeat' (walk_at "e")
    by_cases hw : (rs d b k).head? = some 43
    · refine if_t (by simp only [hw, decide_true, Bool.not_true, Bool.not_false]) ?_
      refine X_seq ?_
      repeat' (walk_at "e")
      have hbk : b < k := by
        rcases Nat.eq_or_lt_of_le hk with rfl | hlt2
        · rw [rs_self] at hw; cases hw
        · exact hlt2
      obtain ⟨j, rfl⟩ : ∃ j, k = j + 1 := ⟨k - 1, by omega⟩
      have e2 : ((j + 1 : Nat) : Int) - 1 - 1 = (j : Int) - 1 := by omega
      rw [e2]
      refine mid_next ⟨j, by omega, by omega, ?_, rfl⟩
      rw [if_pos hw, rs_succ d (by omega) (by omega)]; rfl
    · refine if_f (by simp only [hw, decide_false, Bool.not_false, Bool.not_true]) ?_
      repeat' (walk_at "e")
      refine mid_next ⟨k, hk, Nat.le_refl _, ?_, rfl⟩
      rw [if_neg hw]
  rintro _ ⟨m, hbm, hmk, hm, rfl⟩
  refine X_seq ?_
  repeat' (walk_at "e")
  have e3 : (m : Int) - 1 + 1 = (m : Int) := by omega
  rw [e3]
  refine X_seqJ (fun Γ' => ∃ (t : Nat) (fs : List UInt8), b ≤ t ∧ t ≤ m ∧ rs d b m = fs ++ rs d b t ∧ (∀ c ∈ fs, isFig c = true) ∧ (∀ c, (rs d b t).head? = some c → isFig c = false) ∧
    Γ' = (L, nsHead d b (k + 1) (some (.int ((t : Int) - 1))) (some (.bool (!decide ((rs d b k).head? = some 43)))) (some (.int m)) none) :: Γ) ?_ ?_
  · refine X_while (fun n Γ' => ∃ fs : List UInt8, b ≤ n ∧ n ≤ m ∧ rs d b m = fs ++ rs d b n ∧ (∀ c ∈ fs, isFig c = true) ∧
      Γ' = (L, nsHead d b (k + 1) (some (.int ((n : Int) - 1))) (some (.bool (!decide ((rs d b k).head? = some 43)))) (some (.int m)) none) :: Γ) m ⟨[], hbm, Nat.le_refl _, rfl, by simp, rfl⟩ ?_
    rintro n _ ⟨fs, hbn, hnm, hfs, hall, rfl⟩
    repeat' (walk_at "e")
    rcases Nat.eq_or_lt_of_le hbn with rfl | hlt2
    · refine if_f (decide_eq_false (by omega)) ?_
      refine if_f rfl ?_
      exact mid_next ⟨b, fs, hbn, hnm, hfs, hall, by rw [rs_self]; simp, rfl⟩
    · obtain ⟨j, rfl⟩ : ∃ j, n = j + 1 := ⟨n - 1, by omega⟩
      refine if_t (decide_eq_true (by omega)) ?_
      repeat' (walk_at "e")
      refine I_byt (c := d.getD j 0) (by omega) (by omega) (getD_at (by omega) (by omega)) ?_ (by walk_at "rfl3")
      repeat' (walk_at "e")
      refine F_is_figure G (hA' _) ?_
      repeat' (walk_at "e")
      cases hf : isFig (d.getD j 0) with
      | true =>
        refine if_t hf ?_
        repeat' (walk_at "e")
        refine if_t rfl ?_
        refine X_seq ?_
        repeat' (walk_at "e")
        have e2 : ((j + 1 : Nat) : Int) - 1 - 1 = (j : Int) - 1 := by omega
        rw [e2]
        refine turn_next _ (List.Sublist.refl _) ⟨j, by omega, fs ++ [d.getD j 0], by omega, by omega, ?_, ?_, rfl⟩
        · rw [hfs, rs_succ d (by omega) (by omega)]; simp
        · intro c hc'
          rcases List.mem_append.mp hc' with hc' | hc'
          · exact hall c hc'
          · rw [List.mem_singleton.mp hc']; exact hf
      | false =>
        refine if_f hf ?_
        refine if_f rfl ?_
        refine mid_next ⟨j + 1, fs, hbn, hnm, hfs, hall, ?_, rfl⟩
        rw [rs_succ d (by omega) (by omega)]
        intro c hc'
        simp only [List.head?_cons, Option.some.injEq] at hc'
        rw [← hc']; exact hf
  rintro _ ⟨t, fs, hbt, htm, hfs, hall, hstop, rfl⟩
  have hrun := headR_run (r := rs d b k) (r2 := rs d b m) hm hfs hall hstop
  rw [hrun] at h
  refine X_seq ?_
  repeat' (walk_at "e")
  refine ⟨_, rfl, hz, ?_⟩
  repeat' (walk_at "e")
  refine ⟨_, rfl, ?_⟩
  repeat' (walk_at "e")
  refine ⟨_, rfl, ?_⟩
  repeat' (walk_at "e")
  have e4 : (t : Int) - 1 + 1 = (t : Int) := by omega
  rw [e4, cut_mid d htm (by omega), rs_fs hbt htm (by omega) hfs]
  have hfl : fs.length ≤ d.length := by
    have := congrArg List.length hfs
    rw [rs_len d (by omega), List.length_append] at this
    omega
  refine X_seq ?_
  repeat' (walk_at "e")
  rcases Nat.eq_or_lt_of_le hbt with rfl | hlt2
  · refine if_t (decide_eq_true (by omega)) ?_
    refine if_t rfl ?_
    repeat' (walk_at "m")
    refine back_ret Γ (by walk_at "sub") ?_
    rw [rs_self] at h; exact h
  obtain ⟨j, rfl⟩ : ∃ j, t = j + 1 := ⟨t - 1, by omega⟩
  rw [rs_succ d (by omega) (by omega)] at h
  simp only [List.head?_cons, Option.some.injEq] at h
  refine if_f (decide_eq_false (by omega)) ?_
  repeat' (walk_at "e")
  refine I_byt (c := d.getD j 0) (by omega) (by omega) (getD_at (by omega) (by omega)) ?_ (by walk_at "rfl3")
  repeat' (walk_at "e")
  by_cases hb : d.getD j 0 = 123
  rotate_left
  · refine if_t (by rw [show (123 : Int) = ((123 : UInt8).toNat : Int) from rfl, u_ne]; simp only [hb, decide_false, Bool.not_false]) ?_
    refine if_t rfl ?_
    repeat' (walk_at "m")
    refine back_ret Γ (by walk_at "sub") ?_
    rw [if_neg (fun x => hb x.1)] at h; exact h
  refine if_f (by rw [hb]; rfl) ?_
  repeat' (walk_at "e")
  refine B_lenB (by simp; omega) ?_
  repeat' (walk_at "e")
  rw [List.length_reverse]
  by_cases h0 : 0 < fs.length
  rotate_left
  · refine if_f (decide_eq_false (by omega)) ?_
    refine if_t rfl ?_
    refine if_t rfl ?_
    repeat' (walk_at "m")
    refine back_ret Γ (by walk_at "sub") ?_
    rw [if_neg (fun x => h0 x.2.1)] at h; exact h
  refine if_t (decide_eq_true (by omega)) ?_
  refine E_constG G (g_MOST _) rfl rfl rfl rfl (VR_int.mpr ⟨_, rfl⟩) ?_
  repeat' (walk_at "e")
  by_cases h10 : fs.length ≤ 10
  rotate_left
  · refine if_t (by rw [decide_eq_false (show ¬ ((fs.length : Int) ≤ 10) by omega)]; rfl) ?_
    refine if_t rfl ?_
    repeat' (walk_at "m")
    refine back_ret Γ (by walk_at "sub") ?_
    rw [if_neg (fun x => h10 x.2.2)] at h; exact h
  rw [if_pos ⟨hb, h0, h10⟩] at h
  refine if_f (by rw [decide_eq_true (show ((fs.length : Int) ≤ 10) by omega)]; rfl) ?_
  repeat' (walk_at "e")
  refine if_f rfl ?_
  repeat' (walk_at "m")
  refine F_number G (hA' _) hh ?_
  repeat' (walk_at "e")
  refine ⟨by simp [sizeLine_eq], ?_⟩
  repeat' (walk_at "e")
  exact back_ret Γ (by walk_at "sub") h
end
section
variable {prog : Program} {w : World} {s₀ s : Shared} {A : Around} {Γ Γ' : Led}
theorem crlf_parts {d pre post : List UInt8} {k : Nat} (hk : k ≤ d.length) (h : crlf (d.drop k) = some (pre, post)) : (d.take (k + pre.length)).drop k = pre ∧ d.length = k + pre.length + 2 + post.length := by
  obtain ⟨e, _⟩ := crlf_some h
  refine ⟨?_, ?_⟩
  · rw [List.drop_take, e]; simp
  · have := congrArg List.length e
    simp at this; omega
theorem end_none {d : List UInt8} {k : Nat} {e : Int} {o : Option (Int × Bool)} (h : End d k e o) (hc : crlf (d.drop k) = none) : e = -1 ∧ o = none := by
  cases h with
  | none _ => exact ⟨rfl, rfl⟩
  | line h _ => rw [hc] at h; cases h
  | head h _ => rw [hc] at h; cases h
  | short h _ _ _ => rw [hc] at h; cases h
  | next h _ _ _ _ => rw [hc] at h; cases h
theorem end_some {d pre post : List UInt8} {k : Nat} {e : Int} {o : Option (Int × Bool)} (h : End d k e o) (hc : crlf (d.drop k) = some (pre, post)) :
    (headOf pre = none ∧ e = ((k + pre.length + 2 : Nat) : Int) ∧ o = none) ∨ (∃ h, headOf pre = some h ∧ post = [] ∧ e = -1 ∧ o = some h) ∨
    (∃ (n : Nat) (b : Bool), headOf pre = some ((n : Int), b) ∧ post ≠ [] ∧ post.length < n ∧ e = -1 ∧ o = none) ∨
    (∃ (n : Nat) (b : Bool), headOf pre = some ((n : Int), b) ∧ post ≠ [] ∧ n ≤ post.length ∧ End d (k + pre.length + 2 + n) e o) := by
  cases h with
  | none h => rw [hc] at h; cases h
  | line h x => rw [hc] at h; cases h; exact .inl ⟨x, rfl, rfl⟩
  | head h x => rw [hc] at h; cases h; exact .inr (.inl ⟨_, x, rfl, rfl, rfl⟩)
  | short h a b c => rw [hc] at h; cases h; exact .inr (.inr (.inl ⟨_, _, b, a, c, rfl, rfl⟩))
  | next h a b c x => rw [hc] at h; cases h; exact .inr (.inr (.inr ⟨_, _, b, a, c, x⟩))
abbrev nsEnd (d : List UInt8) (k : Nat) (here feed head : Option AV) : AO := .ns [(nm "data", some (.byt d)), (nm "at", some (.int k)), (nm "here", here), (nm "feed", feed), (nm "head", head)]
set_option maxHeartbeats 4000000 in
theorem F_end (G : Top0 w s₀) (hA : A.depth < 700) (hh : A.handled = none) {d : List UInt8} {k : Nat} {e : Int} {o : Option (Int × Bool)} {Q : AV → Led → Prop} (hz : d.length ≤ 16777216) (hk : k ≤ d.length) (hE : End d k e o)
    (h : Q (.tup [.int e, hv o]) Γ) : WL prog w s₀ A VR (fun vs => call (.ref 42) vs) [.byt d, .int k] Γ Q := by
  refine' K_plain G [nm "data", nm "at"] [nm "here", nm "feed", nm "head"] [(nm "data", some (.byt d)), (nm "at", some (.int k)), (nm "here", none), (nm "feed", none), (nm "head", none)]
    (Nat.lt_trans hA (by decide)) ?ho ?hcd ?hlen ?hbind ?hloc ?hcell ?nd ?hco ?hgen ?hk ?hρ ?h
  walk_at "def1"
  intro L
  have hA' : ∀ env, (A.deeper env).depth < 800 := fun env => by show A.depth + 1 < 800; omega
  repeat' (walk_at "m")
  refine X_while (fun n Γ' => ∃ (k' : Nat) (o1 o2 : Option AV), n = d.length + 1 - k' ∧ k' ≤ d.length ∧ End d k' e o ∧ Γ' = (L, nsEnd d k (some (.int k')) o1 o2) :: Γ) (d.length + 1 - k) ⟨k, none, none, rfl, hk, hE, rfl⟩ ?_
  rintro n _ ⟨k', o1, o2, rfl, hk', hE', rfl⟩
  repeat' (walk_at "e")
  refine if_t rfl ?_
  refine X_seq ?_
  repeat' (walk_at "e")
  walk_at "m.find"
  repeat' (walk_at "e")
  refine ⟨G_find, ?_⟩
  repeat' (walk_at "e")
  refine E_constG G (g_CRLF _) rfl rfl rfl rfl (VR_byt (b := [13, 10]).mpr ⟨_, rfl⟩) ?_
  repeat' (walk_at "e")
  refine M_find (Int.natCast_nonneg _) ?_
  rw [findI_crlf d k' hk']
  cases hc : crlf (d.drop k') with
  | none =>
    obtain ⟨rfl, rfl⟩ := end_none hE' hc
    repeat' (walk_at "m")
    refine if_t (decide_eq_true (show (-1 : Int) < 0 by omega)) ?_
    repeat' (walk_at "m")
    refine ⟨by simp [sizeLine_eq], ?_⟩
    repeat' (walk_at "e")
    refine turn_ret (then_ret (back_ret Γ (by walk_at "sub") h))
  | some p =>
    obtain ⟨pre, post⟩ := p
    dsimp only
    obtain ⟨hpre, hlen⟩ := crlf_parts hk' hc
    obtain ⟨f, hf⟩ : ∃ f, f = k' + pre.length := ⟨_, rfl⟩
    rw [← hf] at hpre ⊢
    repeat' (walk_at "m")
    refine if_f (decide_eq_false (show ¬ ((f : Int) < 0) by omega)) ?_
    repeat' (walk_at "m")
    refine F_head G (hA' _) hh hz (show k' ≤ f by omega) (by omega) ?_
    rw [hpre]
    repeat' (walk_at "m")
    rcases end_some hE' hc with ⟨hn, rfl, rfl⟩ | ⟨hd, hn, rfl, rfl, rfl⟩ | ⟨n, bb, hn, hp, hs, rfl, rfl⟩ | ⟨n, bb, hn, hp, hs, hE''⟩
    · rw [hn]
      refine C_isN ?_
      repeat' (walk_at "m")
      refine if_t rfl ?_
      repeat' (walk_at "m")
      refine ⟨by simp [sizeLine_eq], ?_⟩
      repeat' (walk_at "e")
      have e3 : (f : Int) + 2 = ((k' + pre.length + 2 : Nat) : Int) := by omega
      rw [e3]
      exact turn_ret (then_ret (back_ret Γ (by walk_at "sub") h))
    · rw [hn]
      refine C_isT ?_
      repeat' (walk_at "m")
      refine if_f rfl ?_
      repeat' (walk_at "m")
      refine B_lenB (by omega) ?_
      repeat' (walk_at "m")
      refine if_t (by simp only [List.length_nil] at hlen; rw [beq_iff_eq]; omega) ?_
      repeat' (walk_at "m")
      refine ⟨by simp [sizeLine_eq], ?_⟩
      repeat' (walk_at "e")
      exact turn_ret (then_ret (back_ret Γ (by walk_at "sub") h))
    all_goals
      have hp' : 0 < post.length := List.length_pos_iff.mpr hp
      rw [hn]
      refine C_isT ?_
      repeat' (walk_at "m")
      refine if_f rfl ?_
      repeat' (walk_at "m")
      refine B_lenB (by omega) ?_
      repeat' (walk_at "m")
      refine if_f (by rw [beq_eq_false_iff_ne]; omega) ?_
      repeat' (walk_at "m")
      refine I_tup (by decide) (by decide) rfl ?_ (by walk_at "rfl2")
      repeat' (walk_at "m")
      refine B_lenB (by omega) ?_
      repeat' (walk_at "m")
    · refine if_t (decide_eq_true (by omega)) ?_
      repeat' (walk_at "m")
      refine ⟨by simp [sizeLine_eq], ?_⟩
      repeat' (walk_at "e")
      exact turn_ret (then_ret (back_ret Γ (by walk_at "sub") h))
    · refine if_f (decide_eq_false (by omega)) ?_
      repeat' (walk_at "m")
      have e3 : (f : Int) + 2 + (((n : Int), bb).1 : Int) = ((k' + pre.length + 2 + n : Nat) : Int) := by show (f : Int) + 2 + (n : Int) = _; omega
      rw [e3]
      exact turn_next _ (List.Sublist.refl _) ⟨_, by omega, k' + pre.length + 2 + n, some (.int f), some (hv (some ((n : Int), bb))), rfl, by omega, hE'', rfl⟩
end
section
variable {prog : Program} {w : World} {s₀ s : Shared} {A : Around} {Γ Γ' : Led}
theorem end_range {d : List UInt8} {k : Nat} {e : Int} {o : Option (Int × Bool)} (h : End d k e o) : ∀ {e' : Nat}, e = (e' : Int) → k ≤ d.length → k + 2 ≤ e' ∧ e' ≤ d.length := by
  induction h with
  | none _ => intro e' he; omega
  | line hc _ => intro e' he hk; have := (crlf_parts hk hc).2; omega
  | head _ _ => intro e' he; omega
  | short _ _ _ _ => intro e' he; omega
  | next hc _ _ hn _ ih =>
    intro e' he hk
    have := (crlf_parts hk hc).2
    have := ih he (by omega)
    omega
abbrev nsWant (d : List UInt8) (at_ head : Option AV) : AO := .ns [(nm "data", some (.byt d)), (nm "at", at_), (nm "head", head)]
set_option maxHeartbeats 4000000 in
theorem F_wanted (G : Top0 w s₀) (hA : A.depth < 600) (hh : A.handled = none) {d : List UInt8} {o : Option (Int × Bool)} {Q : AV → Led → Prop} (hz : d.length ≤ 16777216) (hW : Wanted d 0 o)
    (h : Q (hv o) Γ) : WL prog w s₀ A VR (fun vs => call (.ref 49) vs) [.byt d] Γ Q := by
  refine' K_plain G [nm "data"] [nm "at", nm "head"] [(nm "data", some (.byt d)), (nm "at", none), (nm "head", none)]
    (Nat.lt_trans hA (by decide)) ?ho ?hcd ?hlen ?hbind ?hloc ?hcell ?nd ?hco ?hgen ?hk ?hρ ?h
  walk_at "def1"
  intro L
  have hA' : ∀ env, (A.deeper env).depth < 700 := fun env => by show A.depth + 1 < 700; omega
  have hh' : ∀ env, (A.deeper env).handled = none := fun env => hh
  repeat' (walk_at "m")
  refine X_while (fun n Γ' => (∃ (k : Nat) (o1 : Option AV), n = d.length + 2 - k ∧ k ≤ d.length ∧ Wanted d k o ∧ Γ' = (L, nsWant d (some (.int k)) o1) :: Γ) ∨
    (n = 0 ∧ Γ' = (L, nsWant d (some (.int (-1))) (some (hv o))) :: Γ)) (d.length + 2) (.inl ⟨0, none, rfl, Nat.zero_le _, hW, rfl⟩) ?_
  rintro n _ (⟨k, o1, rfl, hk, hW', rfl⟩ | ⟨rfl, rfl⟩)
  · repeat' (walk_at "e")
    refine if_t (decide_eq_true (by omega)) ?_
    refine X_seq ?_
    walk_at "m.assignT"
    repeat' (walk_at "e")
    cases hW' with
    | stop hE =>
      refine F_end G (hA' _) (hh' _) hz hk hE ?_
      walk_at "m.atuple"
      repeat' (walk_at "m")
      refine turn_next _ (List.Sublist.refl _) ?_
      exact ⟨0, by omega, .inr ⟨rfl, rfl⟩⟩
    | @go _ e _ o' hE hW2 =>
      have hr := end_range hE rfl hk
      refine F_end G (hA' _) (hh' _) hz hk hE ?_
      walk_at "m.atuple"
      repeat' (walk_at "m")
      refine turn_next _ (List.Sublist.refl _) ?_
      exact ⟨_, by omega, .inl ⟨e, _, rfl, hr.2, hW2, rfl⟩⟩
  · repeat' (walk_at "e")
    refine if_f (by decide) ?_
    repeat' (walk_at "m")
    exact back_ret Γ (by walk_at "sub") h
end
section
variable {prog : Program} {w : World} {s₀ s : Shared} {A : Around} {Γ Γ' : Led}
/-- where the splitting stands at k, with e the end found there -/
def SplitAt (d r : List UInt8) (k : Nat) (e : Int) (rest : List (List UInt8)) : Prop :=
  (e = -1 ∧ rest = [] ∧ r = d.drop k) ∨ ∃ (e' : Nat) (cs' : List (List UInt8)), e = (e' : Int) ∧ rest = ((d.drop k).take (e' - k)) :: cs' ∧ Split d e' cs' r ∧ k + 2 ≤ e' ∧ e' ≤ d.length
theorem split_at {d r : List UInt8} {k : Nat} {rest : List (List UInt8)} (hk : k ≤ d.length) (h : Split d k rest r) : ∃ e o, End d k e o ∧ SplitAt d r k e rest := by
  cases h with
  | stop hE => exact ⟨_, _, hE, .inl ⟨rfl, rfl, rfl⟩⟩
  | go hE hS => exact ⟨_, _, hE, .inr ⟨_, _, rfl, rfl, hS, end_range hE rfl hk⟩⟩
abbrev nsSplit (d : List UInt8) (found at_ end_ : Option AV) : AO := .ns [(nm "data", some (.byt d)), (nm "found", found), (nm "at", at_), (nm "end", end_)]
set_option maxHeartbeats 4000000 in
theorem F_split (G : Top0 w s₀) (hA : A.depth < 600) (hh : A.handled = none) {d r : List UInt8} {cs : List (List UInt8)} {Q : AV → Led → Prop} (hz : d.length ≤ 16777216) (hS : Split d 0 cs r)
    (h : ∀ a, Q (.tup [.ref a, .byt r]) ((a, .lst (cs.map .byt)) :: Γ)) : WL prog w s₀ A VR (fun vs => call (.ref 56) vs) [.byt d] Γ Q := by
  refine' K_plain G [nm "data"] [nm "found", nm "at", nm "end"] [(nm "data", some (.byt d)), (nm "found", none), (nm "at", none), (nm "end", none)]
    (Nat.lt_trans hA (by decide)) ?ho ?hcd ?hlen ?hbind ?hloc ?hcell ?nd ?hco ?hgen ?hk ?hρ ?h
  walk_at "def1"
  intro L
  have hA' : ∀ env, (A.deeper env).depth < 700 := fun env => by show A.depth + 1 < 700; omega
  have hh' : ∀ env, (A.deeper env).handled = none := fun env => hh
  repeat' (walk_at "m")
  refine ⟨by simp, fun a => ?_⟩
  repeat' (walk_at "m")
  obtain ⟨e, o, hE, hAt⟩ := split_at (Nat.zero_le _) hS
  refine F_end G (hA' _) (hh' _) hz (Nat.zero_le _) hE ?_
  repeat' (walk_at "m")
  refine I_tup (by decide) (by decide) rfl ?_ (by walk_at "rfl2")
  repeat' (walk_at "m")
  refine X_while (fun n Γ' => ∃ (k : Nat) (e : Int) (done rest : List (List UInt8)), n = d.length + 1 - k ∧ k ≤ d.length ∧ done ++ rest = cs ∧ done.length ≤ k ∧ SplitAt d r k e rest ∧
    Γ' = (a, .lst (done.map .byt)) :: (L, nsSplit d (some (.ref a)) (some (.int k)) (some (.int e))) :: Γ) (d.length + 1) ⟨0, e, [], cs, rfl, Nat.zero_le _, rfl, Nat.le_refl _, hAt, rfl⟩ ?_
  rintro n _ ⟨k, e, done, rest, rfl, hk, rfl, hdk, hAt, rfl⟩
  repeat' (walk_at "e")
  rcases hAt with ⟨rfl, rfl, rfl⟩ | ⟨e', cs', rfl, rfl, hS', hr⟩
  · refine if_f (by decide) ?_
    repeat' (walk_at "m")
    refine ⟨_, rfl, hz, ?_⟩
    repeat' (walk_at "m")
    refine ⟨_, rfl, ?_⟩
    repeat' (walk_at "m")
    rw [cut_from d hk]
    refine B_bytesB ?_
    repeat' (walk_at "m")
    refine ⟨by simp [sizeLine_eq], ?_⟩
    repeat' (walk_at "m")
    refine back_ret ((a, .lst (done.map .byt)) :: Γ) (by walk_at "sub") ?_
    have := h a
    simpa using this
  · refine if_t (decide_eq_true (by omega)) ?_
    repeat' (walk_at "m")
    walk_at "m.append"
    repeat' (walk_at "e")
    refine ⟨G_append (by walk_at "mem"), ?_⟩
    repeat' (walk_at "e")
    refine ⟨_, rfl, hz, ?_⟩
    repeat' (walk_at "m")
    refine ⟨_, rfl, ?_⟩
    repeat' (walk_at "m")
    refine ⟨_, rfl, ?_⟩
    repeat' (walk_at "m")
    rw [cut_mid d (by omega) hr.2]
    refine B_bytesB ?_
    repeat' (walk_at "m")
    refine' M_append ?u ?hz ?h
    case u => walk_at "upd"
    case hz => rw [List.length_map, sizeLine_eq]; omega
    refine ⟨rfl, ?_⟩
    repeat' (walk_at "m")
    obtain ⟨e2, o2, hE2, hAt2⟩ := split_at hr.2 hS'
    refine F_end G (hA' _) (hh' _) hz hr.2 hE2 ?_
    repeat' (walk_at "m")
    refine I_tup (by decide) (by decide) rfl ?_ (by walk_at "rfl2")
    repeat' (walk_at "m")
    refine turn_next _ (List.Sublist.refl _) ?_
    refine ⟨_, by omega, e', e2, done ++ [(d.drop k).take (e' - k)], cs', rfl, hr.2, by simp, by simp; omega, hAt2, ?_⟩
    simp
end
section
variable {prog : Program} {w : World} {s₀ s : Shared} {A : Around} {Γ Γ' : Led}
theorem F_take (G : Top0 w s₀) (hA : A.depth < 800) {a : Addr} {f : AO → Led} (hf : Hole a f) {n m : Int} {Q : AV → Led → Prop} (h1 : 0 < m) (h2 : m < 1073741824)
    (h : ∀ q, Q (.int (n.fmod m)) (f (.arr [.int q]))) : WL prog w s₀ A VR (fun vs => call (.ref 63) vs) [.ref a, .int m] (f (.arr [.int n])) Q := by
  refine' K_plain G [nm "bag", nm "many"] [nm "worth"] [(nm "bag", some (.ref a)), (nm "many", some (.int m)), (nm "worth", none)]
    (Nat.lt_trans hA (by decide)) ?ho ?hcd ?hlen ?hbind ?hloc ?hcell ?nd ?hco ?hgen ?hk ?hρ ?h
  walk_at "def1"
  intro L
  have hm := hf.mem (.arr [.int n])
  repeat' (walk_at "m")
  walk_at "m.iarr"
  repeat' (walk_at "m")
  refine O_mod (by omega) ?_
  repeat' (walk_at "m")
  walk_at "m.assignT"
  repeat' (walk_at "m")
  walk_at "m.iarr"
  repeat' (walk_at "m")
  refine O_fdiv (by omega) (by omega) ?_
  refine A_item ?_
  repeat' (walk_at "m")
  refine I_setArr (.tail (hf _ _)) (by decide) (by decide) (by simp) ?_
  repeat' (walk_at "m")
  exact back_ret _ (by walk_at "sub") (h _)

theorem ten_pos : (0 : Int) < 10 ^ (120 : Int).toNat := by decide +kernel
set_option maxHeartbeats 4000000 in
theorem F_bag (G : Top0 w s₀) (hA : A.depth < 800) (hh : A.handled = none) {a : Addr} {vs : List Value} {ns : List Int} {Q : AV → Led → Prop} (hl : s₀.heap.IsList a vs.toArray) (hn : IntsAre vs ns) (hz : vs.length ≤ sizeLine)
    (h : ∀ b n, Q (.ref b) ((b, .arr [.int n]) :: Γ)) : WL prog w s₀ A VR (fun vs => call (.ref 70) vs) [.ref a] Γ Q := by
  refine' K_plain G [nm "script"] [nm "number", nm "cell"] [(nm "script", some (.ref a)), (nm "number", none), (nm "cell", none)]
    (Nat.lt_trans hA (by decide)) ?ho ?hcd ?hlen ?hbind ?hloc ?hcell ?nd ?hco ?hgen ?hk ?hρ ?h
  walk_at "def1"
  intro L
  refine X_seq ?_
  repeat' (walk_at "e")
  refine X_seqJ (fun Γ' => ∃ (num : Int) (o : Option AV), 0 ≤ num ∧ Γ' = (L, .ns [(nm "script", some (.ref a)), (nm "number", some (.int num)), (nm "cell", o)]) :: Γ) ?_ ?_
  · walk_at "m.for"
    refine' E_sliceL (k := 24) hl hn hz ?hq ?hr
    case hr => (intro _ _; with_unfolding_all rfl)
    repeat' (walk_at "e")
    refine ⟨rfl, ?_⟩
    repeat' (walk_at "e")
    refine ⟨24, rfl, (rfl : some (24 : Int) = some ((24 : Nat) : Int)), fun D => ?_⟩
    refine ⟨_, _, _, _, Over.lst D _ _ (.head _), TargetOk.name, fun i Γ' => ∃ (num : Int) (o : Option AV), 0 ≤ num ∧ Γ' = (D, .lst ((ns.take 24).map AV.int)) :: (L, .ns [(nm "script", some (.ref a)), (nm "number", some (.int num)), (nm "cell", o)]) :: Γ,
      ⟨7, none, by decide, rfl⟩, ?_, ?_, ?_⟩
    · rintro i _ ⟨num, o, _, rfl⟩; exact .head _
    · rintro I i _ hi ⟨num, o, h0, rfl⟩
      rw [List.length_map] at hi
      rw [getD_ints hi]
      repeat' (walk_at "m")
      refine O_mul (mul_small (by decide) (by decide)) ?_
      repeat' (walk_at "m")
      refine O_pow (by decide) (by decide +kernel) ?_
      refine O_mod (Int.ne_of_gt ten_pos) ?_
      repeat' (walk_at "m")
      refine turn_next _ (List.Sublist.refl _) ⟨_, rfl, _, _, ?_, rfl⟩
      have := Int.fmod_nonneg_of_pos ((ns.take 24).getD i 0) ten_pos
      have := Int.mul_nonneg h0 (show (0 : Int) ≤ 1000033 by decide)
      omega
    · rintro _ ⟨num, o, h0, rfl⟩
      exact mid_sub _ (by walk_at "sub") ⟨num, o, h0, rfl⟩
  rintro _ ⟨num, o, h0, rfl⟩
  refine X_seqJ (fun Γ' => ∃ (num : Int) (o : Option AV), Γ' = (L, .ns [(nm "script", some (.ref a)), (nm "number", some (.int num)), (nm "cell", o)]) :: Γ) ?_ ?_
  · repeat' (walk_at "e")
    refine O_pow (by decide) (by decide +kernel) ?_
    repeat' (walk_at "e")
    refine if_b (fun hb => ?_) fun hb => ?_
    · have hb := of_decide_eq_true hb
      repeat' (walk_at "m")
      refine O_pow (by decide) ?_ ?_
      · have := bits_lt h0 (m := 167) (Int.lt_trans hb (by decide +kernel))
        omega
      repeat' (walk_at "m")
      exact mid_next ⟨_, _, rfl⟩
    · repeat' (walk_at "m")
      exact mid_next ⟨_, _, rfl⟩
  rintro _ ⟨num, o, rfl⟩
  refine X_seq (X_return (E_listA ?_))
  repeat' (walk_at "m")
  refine ⟨by simp [sizeLine_eq], fun b => ?_⟩
  repeat' (walk_at "m")
  exact back_ret ((b, .arr [.int num]) :: Γ) (by walk_at "sub") (h _ _)
end
section
variable {prog : Program} {w : World} {s₀ s : Shared} {A : Around} {Γ Γ' : Led}
set_option maxHeartbeats 4000000 in
theorem F_line (G : Top0 w s₀) (hA : A.depth < 700) (hh : A.handled = none) {a : Addr} {f : AO → Led} (hf : Hole a f) {n : Int} {Q : AV → Led → Prop}
    (h : ∀ (q : Int) (ps : List (List UInt8)), ps.length ≤ 3 → (∀ p ∈ ps, p ∈ pieceL) → Q (.byt ps.flatten) (f (.arr [.int q]))) : WL prog w s₀ A VR (fun vs => call (.ref 75) vs) [.ref a] (f (.arr [.int n])) Q := by
  refine' K_two G [nm "bag"] (nm "bag") (nm "pieces") [] (some (.ref a)) none (Nat.lt_trans hA (by decide)) ?ho ?hcd ?hlen ?hbind ?hcs ?hne ?hkinds ?ndn ?ndρ ?hρ ?h₁ ?h₂ ?hco ?hgen ?hk ?h
  walk_at "def2"
  case hkinds => (intro x hx; cases List.mem_singleton.mp hx; exact .inr ⟨rfl, fun _ => rfl⟩)
  case hρ => (intro x av hx; cases hx)
  case h₁ => (intro av e; cases e; exact ⟨.head _, rfl⟩)
  case h₂ => (intro av e; cases e)
  intro L c₁ c₂
  have hA' : ∀ env, (A.deeper env).depth < 800 := fun env => by show A.depth + 1 < 800; omega
  repeat' (walk_at "m")
  refine ⟨by simp [sizeLine_eq], fun P => ?_⟩
  repeat' (walk_at "m")
  walk_at "m.join"
  repeat' (walk_at "m")
  refine ⟨G_join, ?_⟩
  repeat' (walk_at "m")
  refine' E_comp ?hh [nm "turn"] ?hxs ?hclos ?hcell ?hkind ?hnames ?hq ?hs
  walk_at "m.comp"
  repeat' (walk_at "m")
  refine WL.spot (by walk_at "spot") fun hf' => F_take G (hA' _) hf' (by decide) (by decide) fun q => ?_
  obtain ⟨k, hk, ek⟩ := fmod_nat n (m := 4) (by decide)
  rw [show (4 : Int) = ((4 : Nat) : Int) from rfl, ek]
  repeat' (walk_at "m")
  refine B_range fun r => ?_
  refine ⟨k, _, _, _, Over.rng r k _ (.head _) (by omega), TargetOk.name, by rw [sizeLine_eq]; omega,
    fun i ys Γ' => ∃ (q : Int) (ps : List (List UInt8)), ys = ps.map AV.byt ∧ ps.length = i ∧ (∀ p ∈ ps, p ∈ pieceL) ∧
      Γ' = (r, .rng k) :: (P, .lst (pieceL.map AV.byt)) :: (L, .ns []) :: (c₂, .cell (some (.ref P))) :: (c₁, .cell (some (.ref a))) :: f (.arr [.int q]), ?_, ?_, ?_, ?_, ?_⟩
  · exact ⟨q, [], rfl, rfl, by simp, rfl⟩
  · exact fun _ _ _ _ => trivial
  · rintro i ys _ ⟨q, ps, rfl, rfl, _, rfl⟩; simp
  · rintro C D I i ys _ hi ⟨q, ps, rfl, rfl, hps, rfl⟩
    change W1 _ _ _ _ _ _ _ ((I, _) :: (C, AO.ns [(nm "turn", none)]) :: _) _
    repeat' (walk_at "m")
    refine ifs_nil (if_t rfl ?_)
    repeat' (walk_at "m")
    refine WL.spot (by walk_at "spot") fun hf' => F_take G (hA' _) hf' (by decide) (by decide) fun q' => ?_
    obtain ⟨j, hj, ej⟩ := fmod_nat q (m := 8) (by decide)
    rw [show (8 : Int) = ((8 : Nat) : Int) from rfl, ej]
    refine I_lst (l := pieceL.map AV.byt) (by walk_at "mem") (Int.natCast_nonneg _) (by omega) (byts_at hj) ?_ (by walk_at "rfl2")
    refine ⟨_, _, by walk_at "sub", q', ps ++ [pieceL.getD j []], by simp, by simp, ?_, rfl⟩
    intro p hp
    rcases List.mem_append.mp hp with hp | hp
    · exact hps p hp
    · rw [List.mem_singleton.mp hp]; exact getD_in hj
  · rintro ys _ ⟨q, ps, rfl, rfl, hps, rfl⟩ D
    repeat' (walk_at "m")
    have hfl := flat_le (m := 4) (ps := ps) fun p hp => (by decide : ∀ p ∈ pieceL, p.length ≤ 4) p (hps p hp)
    refine M_join (by walk_at "mem") (by rw [sizeLine_eq]; omega) ?_
    repeat' (walk_at "m")
    exact back_ret _ (by walk_at "sub") (h q ps (by omega) hps)
end
section
variable {prog : Program} {w : World} {s₀ s : Shared} {A : Around} {Γ Γ' : Led}
theorem mul_nought {z : Nat} (h : z ∈ [0, 1, 8]) : MulOk (nm "0") (z : Int) := by
  have : z = 0 ∨ z = 1 ∨ z = 8 := by simpa using h
  rcases this with rfl | rfl | rfl <;> (unfold MulOk; decide +kernel)
abbrev nsCmd (fd : List UInt8) (H B : Addr) (turn content waits figures tails : Option AV) : AO :=
  .ns [(nm "found", some (.byt fd)), (nm "heads", some (.ref H)), (nm "borders", some (.ref B)), (nm "turn", turn), (nm "content", content), (nm "waits", waits), (nm "figures", figures), (nm "tails", tails)]
set_option maxHeartbeats 8000000 in
theorem F_command (G : Top0 w s₀) (hA : A.depth < 600) (hh : A.handled = none) {a : Addr} {f : AO → Led} (hf : Hole a f) {n : Int} {Q : AV → Led → Prop}
    (h : ∀ (q : Int) fd hs bs H B, Cmd fd hs bs → Q (.tup [.byt fd, .ref H, .ref B]) ((B, .lst (bs.map nAV)) :: (H, .lst (hs.map hAV)) :: f (.arr [.int q]))) :
    WL prog w s₀ A VR (fun vs => call (.ref 80) vs) [.ref a] (f (.arr [.int n])) Q := by
  refine' K_two G [nm "bag"] (nm "bag") (nm "some") [(nm "found", none), (nm "heads", none), (nm "borders", none), (nm "turn", none), (nm "content", none), (nm "waits", none), (nm "figures", none), (nm "tails", none)]
    (some (.ref a)) none (Nat.lt_trans hA (by decide)) ?ho ?hcd ?hlen ?hbind ?hcs ?hne ?hkinds ?ndn ?ndρ ?hρ ?h₁ ?h₂ ?hco ?hgen ?hk ?h
  walk_at "def2"
  case hkinds => (intro x hx; cases List.mem_singleton.mp hx; exact .inr ⟨rfl, fun _ => rfl⟩)
  case hρ => (intro x av hx; simp at hx)
  case h₁ => (intro av e; cases e; exact ⟨.head _, rfl⟩)
  case h₂ => (intro av e; cases e)
  intro L c₁ c₂
  have hA' : ∀ env, (A.deeper env).depth < 700 := fun env => by show A.depth + 1 < 700; omega
  have hA2 : ∀ env, (A.deeper env).depth < 800 := fun env => Nat.lt_trans (hA' env) (by decide)
  refine X_seq ?_
  walk_at "m.swap"
  repeat' (walk_at "e")
  refine ⟨by simp [sizeLine_eq], fun H => ?_⟩
  repeat' (walk_at "e")
  refine ⟨by simp [sizeLine_eq], fun B => ?_⟩
  repeat' (walk_at "e")
  refine ⟨by simp [sizeLine_eq], ?_⟩
  refine ⟨_, rfl, rfl, ?_⟩
  refine AI_cons (A_bind ?_)
  walk_at "m.store"
  refine AI_cons (A_bind ?_)
  walk_at "m.store"
  refine AI_cons (A_bind ?_)
  walk_at "m.store"
  refine AI_nil ?_
  repeat' (walk_at "e")
  refine X_seqJ (fun Γ' => ∃ (q : Int) (i : Nat) (fd : List UInt8) (hs : List (Nat × Nat × Bool)) (bs : List Nat) (o1 o2 o3 o4 o5 : Option AV), i ≤ 2 ∧ Body i fd hs bs ∧
    Γ' = (B, .lst (bs.map nAV)) :: (H, .lst (hs.map hAV)) :: (L, nsCmd fd H B o1 o2 o3 o4 none) :: (c₂, .cell o5) :: (c₁, .cell (some (.ref a))) :: f (.arr [.int q])) ?_ ?_
  · walk_at "m.for"
    repeat' (walk_at "e")
    refine WL.spot (by walk_at "spot") fun hf' => F_take G (hA2 _) hf' (by decide) (by decide) fun q => ?_
    obtain ⟨k, hk, ek⟩ : ∃ k : Nat, k < 3 ∧ n.fmod 3 = (k : Int) := fmod_nat n (m := 3) (by decide)
    rw [ek]
    repeat' (walk_at "e")
    refine B_range fun r => ?_
    refine ⟨k, _, _, _, Over.rng r k _ (.head _) (by omega), TargetOk.name, fun i Γ' => ∃ (q : Int) (fd : List UInt8) (hs : List (Nat × Nat × Bool)) (bs : List Nat) (o1 o2 o3 o4 o5 : Option AV), Body i fd hs bs ∧
      Γ' = (r, .rng k) :: (B, .lst (bs.map nAV)) :: (H, .lst (hs.map hAV)) :: (L, nsCmd fd H B o1 o2 o3 o4 none) :: (c₂, .cell o5) :: (c₁, .cell (some (.ref a))) :: f (.arr [.int q]), ?_, ?_, ?_, ?_⟩
    · exact ⟨q, _, [], [], none, none, none, none, none, Body.nil, rfl⟩
    · exact fun _ _ _ => trivial
    · rintro I i _ hi ⟨q, fd, hs, bs, o1, o2, o3, o4, o5, hb, rfl⟩
      repeat' (walk_at "e")
      have l1 := hb.len
      -- the line
      refine X_seq ?_
      repeat' (walk_at "e")
      refine WL.spot (by walk_at "spot") fun hf' => F_line G (hA' _) hh hf' fun q2 ps hps hps' => ?_
      have l2 := line_le hps hps'
      refine O_addB (by omega) ?_
      repeat' (walk_at "e")
      -- some
      refine X_seq ?_
      repeat' (walk_at "e")
      refine ⟨by simp [sizeLine_eq], fun X => ?_⟩
      repeat' (walk_at "e")
      refine B_bytesL (l := [0, 255]) (by walk_at "mem") (by decide) (by simp [sizeLine_eq]) hh ?_
      repeat' (walk_at "e")
      refine ⟨by simp [sizeLine_eq], fun S => ?_⟩
      repeat' (walk_at "e")
      -- content
      refine X_seq ?_
      repeat' (walk_at "e")
      walk_at "m.join"
      repeat' (walk_at "e")
      refine ⟨G_join, ?_⟩
      repeat' (walk_at "e")
      refine' E_comp ?hh [nm "piece"] ?hxs ?hclos ?hcell ?hkind ?hnames ?hq ?hs
      walk_at "m.comp"
      repeat' (walk_at "e")
      refine WL.spot (by walk_at "spot") fun hf' => F_take G (hA2 _) hf' (by decide) (by decide) fun q3 => ?_
      obtain ⟨k2, hk2, ek2⟩ : ∃ k : Nat, k < 4 ∧ q2.fmod 4 = (k : Int) := fmod_nat q2 (m := 4) (by decide)
      rw [ek2]
      repeat' (walk_at "e")
      refine B_range fun r2 => ?_
      refine ⟨k2, _, _, _, Over.rng r2 k2 _ (.head _) (by omega), TargetOk.name, by rw [sizeLine_eq]; omega,
        fun i' ys Γ' => ∃ (q : Int) (cs : List (List UInt8)), ys = cs.map AV.byt ∧ cs.length = i' ∧ (∀ p ∈ cs, p ∈ contentL) ∧
          Γ' = (r2, .rng k2) :: (S, .lst (contentL.map AV.byt)) :: (X, .lst [.int 0, .int 255]) :: (I, .itR ((i + 1 : Nat) : Int) ((k : Int) - ((i + 1 : Nat) : Int))) :: (r, .rng k) :: (B, .lst (bs.map nAV)) :: (H, .lst (hs.map hAV)) ::
            (L, nsCmd (fd ++ ps.flatten) H B (some (.int i)) o2 o3 o4 none) :: (c₂, .cell (some (.ref S))) :: (c₁, .cell (some (.ref a))) :: f (.arr [.int q]), ?_, ?_, ?_, ?_, ?_⟩
      · exact ⟨q3, [], rfl, rfl, by simp, rfl⟩
      · exact fun _ _ _ _ => trivial
      · rintro i' ys _ ⟨q, cs, rfl, rfl, _, rfl⟩; simp
      · rintro C D I' i' ys _ hi' ⟨q, cs, rfl, rfl, hcs, rfl⟩
        change W1 _ _ _ _ _ _ _ ((I', _) :: (C, AO.ns [(nm "piece", none)]) :: _) _
        repeat' (walk_at "e")
        refine ifs_nil (if_t rfl ?_)
        repeat' (walk_at "e")
        refine WL.spot (by walk_at "spot") fun hf' => F_take G (hA2 _) hf' (by decide) (by decide) fun q' => ?_
        obtain ⟨j, hj, ej⟩ : ∃ k : Nat, k < 6 ∧ q.fmod 6 = (k : Int) := fmod_nat q (m := 6) (by decide)
        rw [ej]
        refine I_lst (l := contentL.map AV.byt) (by walk_at "mem") (Int.natCast_nonneg _) (by omega) (byts_at hj) ?_ (by walk_at "rfl2")
        refine ⟨_, _, by walk_at "sub", q', cs ++ [contentL.getD j []], by simp, by simp, ?_, rfl⟩
        intro p hp
        rcases List.mem_append.mp hp with hp | hp
        · exact hcs p hp
        · rw [List.mem_singleton.mp hp]; exact getD_in hj
      rintro ys _ ⟨q4, cs, rfl, hcl, hcs', rfl⟩ D
      have hcs : cs.length ≤ 3 := by omega
      have l3 := content_le hcs hcs'
      repeat' (walk_at "e")
      refine M_join (by walk_at "mem") (by rw [sizeLine_eq]; omega) ?_
      repeat' (walk_at "e")
      -- waits
      refine X_seq ?_
      repeat' (walk_at "e")
      refine WL.spot (by walk_at "spot") fun hf' => F_take G (hA2 _) hf' (by decide) (by decide) fun q5 => ?_
      repeat' (walk_at "e")
      generalize (q4.fmod 2 == 0) = W
      -- figures
      refine X_seq ?_
      repeat' (walk_at "e")
      refine ⟨by simp [sizeLine_eq], fun Z => ?_⟩
      repeat' (walk_at "e")
      refine WL.spot (by walk_at "spot") fun hf' => F_take G (hA2 _) hf' (by decide) (by decide) fun q6 => ?_
      obtain ⟨j3, hj3, ej3⟩ : ∃ k : Nat, k < 3 ∧ q5.fmod 3 = (k : Int) := fmod_nat q5 (m := 3) (by decide)
      rw [ej3]
      obtain ⟨z, hz, ez⟩ := noughts_at hj3
      refine I_lst (by walk_at "mem") (Int.natCast_nonneg _) (by omega) ez ?_ (by walk_at "rfl2")
      refine O_mulS (mul_nought hz) ?_
      repeat' (walk_at "e")
      refine B_lenB (by omega) ?_
      repeat' (walk_at "e")
      refine B_str (log_small l3) ?_
      refine O_addF hz l3 ?_
      repeat' (walk_at "e")
      have l4 := figs_facts hz l3
      have l5 := headB_le W hz l3
      -- the head
      refine X_seq ?_
      repeat' (walk_at "e")
      refine O_addB (by simp only [List.length_append, List.length_cons, List.length_nil]; omega) ?_
      walk_at "m.encode"
      repeat' (walk_at "e")
      refine ⟨G_encode, ?_⟩
      repeat' (walk_at "e")
      refine M_encodeF hz l3 ?_
      refine O_addB (by simp only [List.length_append, List.length_cons, List.length_nil]; omega) ?_
      refine E_ifBytes ?_
      repeat' (walk_at "e")
      refine O_addB (by cases W <;> simp only [List.length_append, List.length_cons, List.length_nil, if_true, Bool.false_eq_true, if_false] <;> omega) ?_
      repeat' (walk_at "e")
      refine O_addB (by cases W <;> simp only [List.length_append, List.length_cons, List.length_nil, if_true, Bool.false_eq_true, if_false] <;> omega) ?_
      rw [fd_head]
      repeat' (walk_at "e")
      -- heads
      refine X_seq ?_
      repeat' (walk_at "e")
      walk_at "m.append"
      repeat' (walk_at "e")
      refine ⟨G_append (by walk_at "mem"), ?_⟩
      repeat' (walk_at "e")
      refine B_lenB (by simp only [List.length_append]; omega) ?_
      repeat' (walk_at "e")
      refine B_lenB (by omega) ?_
      repeat' (walk_at "e")
      refine ⟨by simp [sizeLine_eq], ?_⟩
      repeat' (walk_at "e")
      refine ⟨by simp [sizeLine_eq], ?_⟩
      repeat' (walk_at "e")
      refine' M_append ?u1 ?z1 ?k1
      case u1 => walk_at "upd"
      case z1 => rw [List.length_map, sizeLine_eq]; omega
      refine ⟨rfl, ?_⟩
      repeat' (walk_at "e")
      -- the literal
      refine X_seq ?_
      repeat' (walk_at "e")
      refine O_addB (by simp only [List.length_append]; omega) ?_
      repeat' (walk_at "e")
      -- borders
      refine X_seq ?_
      repeat' (walk_at "e")
      walk_at "m.append"
      repeat' (walk_at "e")
      refine ⟨G_append (by walk_at "mem"), ?_⟩
      repeat' (walk_at "e")
      refine B_lenB (by simp only [List.length_append]; omega) ?_
      repeat' (walk_at "e")
      refine' M_append ?u2 ?z2 ?k2
      case u2 => walk_at "upd"
      case z2 => rw [List.length_map, sizeLine_eq]; omega
      refine ⟨rfl, ?_⟩
      repeat' (walk_at "e")
      refine turn_next ((I, .itR ((i + 1 : Nat) : Int) ((k : Int) - ((i + 1 : Nat) : Int))) :: (r, .rng k) :: (B, .lst ((bs ++ [(fd ++ ps.flatten ++ headB z cs.flatten.length W ++ cs.flatten).length]).map nAV)) ::
        (H, .lst ((hs ++ [((fd ++ ps.flatten ++ headB z cs.flatten.length W).length, cs.flatten.length, W)]).map hAV)) ::
        (L, nsCmd (fd ++ ps.flatten ++ headB z cs.flatten.length W ++ cs.flatten) H B (some (.int i)) (some (.byt cs.flatten)) (some (.bool W)) (some (.str (figS z cs.flatten.length))) none) ::
        (c₂, .cell (some (.ref S))) :: (c₁, .cell (some (.ref a))) :: f (.arr [.int q6])) ?_ ?_
      rotate_left
      · exact ⟨_, rfl, q6, _, _, _, _, _, _, _, _, Body.lit hb hps hps' hcs hcs' hz, rfl⟩
      · rw [List.map_append, List.map_append]
        walk_at "sub"
    · rintro _ ⟨q, fd, hs, bs, o1, o2, o3, o4, o5, hb, rfl⟩
      exact mid_sub _ (by walk_at "sub") ⟨q, k, fd, hs, bs, o1, o2, o3, o4, o5, by omega, hb, rfl⟩
  rintro _ ⟨q, i, fd, hs, bs, o1, o2, o3, o4, o5, hi, hb, rfl⟩
  refine X_seq ?_
  repeat' (walk_at "e")
  refine ⟨by simp [sizeLine_eq], fun T => ?_⟩
  repeat' (walk_at "e")
  refine X_seq ?_
  repeat' (walk_at "e")
  refine WL.spot (by walk_at "spot") fun hf' => F_line G (hA' _) hh hf' fun q2 ps hps hps' => ?_
  have l1 := hb.len
  have l2 := line_le hps hps'
  refine O_addB (by omega) ?_
  repeat' (walk_at "e")
  refine WL.spot (by walk_at "spot") fun hf' => F_take G (hA2 _) hf' (by decide) (by decide) fun q3 => ?_
  obtain ⟨j, hj, ej⟩ : ∃ k : Nat, k < 11 ∧ q2.fmod 11 = (k : Int) := fmod_nat q2 (m := 11) (by decide)
  rw [ej]
  refine I_lst (l := tailL.map AV.byt) (by walk_at "mem") (Int.natCast_nonneg _) (by omega) (byts_at hj) ?_ (by walk_at "rfl2")
  have hT : tailL.getD j [] ∈ tailL := getD_in hj
  have l3 := (by decide : ∀ t ∈ tailL, t.length ≤ 13) _ hT
  refine O_addB (by simp only [List.length_append]; omega) ?_
  repeat' (walk_at "e")
  refine O_addB (by simp only [List.length_append, List.length_cons, List.length_nil]; omega) ?_
  repeat' (walk_at "e")
  refine X_seq ?_
  repeat' (walk_at "e")
  refine ⟨by simp [sizeLine_eq], ?_⟩
  repeat' (walk_at "e")
  exact back_ret _ (by walk_at "sub") (h q3 _ hs bs H B ⟨i, fd, ps, tailL.getD j [], hi, hb, hps, hps', hT, rfl⟩)
end
section
variable {prog : Program} {w : World} {s₀ s : Shared} {A : Around} {Γ Γ' : Led}
abbrev nsLaw (a b cm hd bd : Addr) (turn octets some_ others offset due part first whole left : Option AV) : AO :=
  .ns [(nm "script", some (.ref a)), (nm "bag", some (.ref b)), (nm "commands", some (.ref cm)), (nm "heads", some (.ref hd)), (nm "borders", some (.ref bd)), (nm "turn", turn), (nm "octets", octets), (nm "some", some_), (nm "others", others),
    (nm "offset", offset), (nm "due", due), (nm "part_of_it", part), (nm "first", first), (nm "whole_ones", whole), (nm "left", left)]
set_option maxHeartbeats 16000000 in
theorem F_law (G : Top0 w s₀) (hA : A.depth < 500) (hh : A.handled = none) (hu : A.units < 5000) {a : Addr} {vs : List Value} {ns : List Int} {Q : AV → Led → Prop} (hl : s₀.heap.IsList a vs.toArray) (hn : IntsAre vs ns) (hz : vs.length ≤ sizeLine)
    (h : Q (.bool true) Γ) : WL prog w s₀ A VR (fun vs => call (.ref 85) vs) [.ref a] Γ Q := by
  refine' K_two G [nm "script"] (nm "data") (nm "cut") [(nm "script", some (.ref a)), (nm "bag", none), (nm "commands", none), (nm "heads", none), (nm "borders", none), (nm "turn", none), (nm "octets", none), (nm "some", none), (nm "others", none),
    (nm "offset", none), (nm "due", none), (nm "part_of_it", none), (nm "first", none), (nm "whole_ones", none), (nm "left", none)]
    none none (Nat.lt_trans hA (by decide)) ?ho ?hcd ?hlen ?hbind ?hcs ?hne ?hkinds ?ndn ?ndρ ?hρ ?h₁ ?h₂ ?hco ?hgen ?hk ?h
  walk_at "def2"
  case hkinds => (intro x hx; cases List.mem_singleton.mp hx; exact .inl rfl)
  case hρ =>
    intro x av hx
    have : (x, some av) = (nm "script", some (AV.ref a)) := by simpa using hx
    cases this
    exact ⟨.head _, rfl⟩
  case h₁ => (intro av e; cases e)
  case h₂ => (intro av e; cases e)
  intro L c₁ c₂
  have hA' : ∀ env, (A.deeper env).depth < 600 := fun env => by show A.depth + 1 < 600; omega
  have hA2 : ∀ env, (A.deeper env).depth < 800 := fun env => Nat.lt_trans (hA' env) (by decide)
  refine X_seq ?_
  repeat' (walk_at "e")
  refine F_bag G (hA2 _) hh hl hn hz fun b n => ?_
  repeat' (walk_at "e")
  refine X_seq ?_
  walk_at "m.assignT"
  repeat' (walk_at "e")
  refine ⟨by simp [sizeLine_eq], fun cm => ?_⟩
  repeat' (walk_at "e")
  refine E_dict G.lim fun hd hds => ?_
  repeat' (walk_at "e")
  refine ⟨by simp [sizeLine_eq], fun bd => ?_⟩
  repeat' (walk_at "e")
  refine ⟨by simp [sizeLine_eq], ?_⟩
  walk_at "m.atuple"
  repeat' (walk_at "e")
  refine X_seqJ (fun Γ' => ∃ (q : Int) (ds : Doc) (bs : List Nat) (o1 o2 o3 o4 o5 o6 : Option AV), ds.Ok ∧ (dataOf ds).length ≤ 160 * 4 ∧ (offs 0 ds).length ≤ 4 ∧ 0 < bs.length ∧ bs.length ≤ 100 ∧
    Γ' = (bd, .lst (bs.map nAV)) :: (hd, .dct (dctOf (headsFrom 0 ds))) :: (cm, .lst ((offs 0 ds).map cAV)) :: (b, .arr [.int q]) :: (L, nsLaw a b cm hd bd o1 o2 o3 o4 o5 o6 none none none none) :: (c₂, .cell none) :: (c₁, .cell (some (.byt (dataOf ds)))) :: Γ) ?_ ?_
  · walk_at "m.for"
    repeat' (walk_at "e")
    refine WL.spot (by walk_at "spot") fun hf' => F_take G (hA2 _) hf' (by decide) (by decide) fun q => ?_
    obtain ⟨k, hk, ek⟩ : ∃ k : Nat, k < 4 ∧ n.fmod 4 = (k : Int) := fmod_nat n (m := 4) (by decide)
    rw [ek]
    repeat' (walk_at "e")
    refine B_range fun r => ?_
    have e1 : (1 : Int) + (k : Int) = ((1 + k : Nat) : Int) := by omega
    rw [e1]
    refine ⟨1 + k, _, _, _, Over.rng r (1 + k) _ (.head _) (by omega), TargetOk.name, fun i Γ' => ∃ (q : Int) (ds : Doc) (bs : List Nat) (o1 o2 o3 o4 o5 o6 : Option AV), ds.Ok ∧ (dataOf ds).length ≤ 160 * i ∧ (offs 0 ds).length = i ∧ 0 < bs.length ∧ bs.length ≤ 1 + 5 * i ∧
      Γ' = (r, .rng ((1 + k : Nat) : Int)) :: (bd, .lst (bs.map nAV)) :: (hd, .dct (dctOf (headsFrom 0 ds))) :: (cm, .lst ((offs 0 ds).map cAV)) :: (b, .arr [.int q]) :: (L, nsLaw a b cm hd bd o1 o2 o3 o4 o5 o6 none none none none) :: (c₂, .cell none) :: (c₁, .cell (some (.byt (dataOf ds)))) :: Γ, ?_, ?_, ?_, ?_⟩
    · exact ⟨q, [], [0], none, none, none, none, none, none, fun x hx => by (cases hx), by simp [dataOf], rfl, by decide, by decide, rfl⟩
    · exact fun _ _ _ => trivial
    · rintro I i _ hi ⟨q, ds, bs, o1, o2, o3, o4, o5, o6, hok, hdl, hol, hb0, hb1, rfl⟩
      have hlow := heads_low hok
      have hhl := heads_len (k := 0) hok
      repeat' (walk_at "e")
      refine X_seq ?_
      walk_at "m.assignT"
      repeat' (walk_at "e")
      refine WL.spot (by walk_at "spot") fun hf' => F_command G (hA' _) hh hf' fun q2 fd hs bs' H B hcmd => ?_
      have hcl := hcmd.len
      obtain ⟨hpos, hnd⟩ := cmd_heads hcmd
      walk_at "m.atuple"
      repeat' (walk_at "e")
      refine X_seqJ (fun Γ' => ∃ (o5 o6 : Option AV), Γ' = (B, .lst (bs'.map nAV)) :: (H, .lst (hs.map hAV)) :: (I, .itR ((i + 1 : Nat) : Int) (((1 + k : Nat) : Int) - ((i + 1 : Nat) : Int))) :: (r, .rng ((1 + k : Nat) : Int)) ::
        (bd, .lst ((bs ++ (hs.take hs.length).map fun p => (dataOf ds).length + p.1).map nAV)) :: (hd, .dct (dctOf (headsFrom 0 ds ++ (hs.take hs.length).map (shift (dataOf ds).length)))) :: (cm, .lst ((offs 0 ds).map cAV)) :: (b, .arr [.int q2]) ::
        (L, nsLaw a b cm hd bd (some (.int i)) (some (.byt fd)) (some (.ref H)) (some (.ref B)) o5 o6 none none none none) :: (c₂, .cell none) :: (c₁, .cell (some (.byt (dataOf ds)))) :: Γ) ?_ ?_
      · walk_at "m.for"
        repeat' (walk_at "e")
        refine ⟨_, _, _, _, Over.lst H (hs.map hAV) _ (by walk_at "mem"), TargetOk.tup (fun j hj => ?_), fun j Γ' => ∃ (o5 o6 : Option AV), Γ' = (B, .lst (bs'.map nAV)) :: (H, .lst (hs.map hAV)) :: (I, .itR ((i + 1 : Nat) : Int) (((1 + k : Nat) : Int) - ((i + 1 : Nat) : Int))) :: (r, .rng ((1 + k : Nat) : Int)) ::
          (bd, .lst ((bs ++ (hs.take j).map fun p => (dataOf ds).length + p.1).map nAV)) :: (hd, .dct (dctOf (headsFrom 0 ds ++ (hs.take j).map (shift (dataOf ds).length)))) :: (cm, .lst ((offs 0 ds).map cAV)) :: (b, .arr [.int q2]) ::
          (L, nsLaw a b cm hd bd (some (.int i)) (some (.byt fd)) (some (.ref H)) (some (.ref B)) o5 o6 none none none none) :: (c₂, .cell none) :: (c₁, .cell (some (.byt (dataOf ds)))) :: Γ, ?_, ?_, ?_, ?_⟩
        · rw [List.length_map] at hj
          exact ⟨_, head_item hj⟩
        · exact ⟨o5, o6, by simp⟩
        · rintro j _ ⟨o5, o6, rfl⟩; walk_at "mem"
        · rintro I2 j _ hj ⟨o5, o6, rfl⟩
          rw [List.length_map] at hj
          rw [head_item hj]
          walk_at "m.atuple"
          repeat' (walk_at "e")
          refine X_seq ?_
          walk_at "m.assignT"
          repeat' (walk_at "e")
          refine A_item ?_
          repeat' (walk_at "e")
          refine B_lenB (by omega) ?_
          repeat' (walk_at "e")
          refine' I_setDct ?u1 ?n1 ?z1 ?k1
          case u1 => walk_at "upd"
          case n1 => exact dct_new hj hlow hnd
          case z1 =>
            have := List.length_take_le j hs
            rw [sizeLine_eq]; simp only [dctOf, List.length_map, List.length_append]; omega
          repeat' (walk_at "e")
          refine X_seq ?_
          repeat' (walk_at "e")
          walk_at "m.append"
          repeat' (walk_at "e")
          refine ⟨G_append (by walk_at "mem"), ?_⟩
          repeat' (walk_at "e")
          refine B_lenB (by omega) ?_
          repeat' (walk_at "e")
          refine' M_append ?u2 ?z2 ?k2
          case u2 => walk_at "upd"
          case z2 =>
            have := List.length_take_le j hs
            rw [sizeLine_eq]; simp only [List.length_map, List.length_append]; omega
          refine ⟨rfl, ?_⟩
          repeat' (walk_at "e")
          rw [borders_step hj, dct_step hj]
          exact turn_next _ (List.Sublist.refl _) ⟨_, rfl, _, _, rfl⟩
        · rintro _ ⟨o5, o6, rfl⟩
          rw [List.length_map]
          exact mid_next ⟨o5, o6, rfl⟩
      rintro _ ⟨o5, o6, rfl⟩
      rw [List.take_length]
      -- the literals' ends
      refine X_seq ?_
      repeat' (walk_at "e")
      walk_at "m.extend"
      repeat' (walk_at "e")
      refine ⟨G_extend (by walk_at "mem"), ?_⟩
      repeat' (walk_at "e")
      refine' E_comp ?hh [nm "offset"] ?hxs ?hclos ?hcell ?hkind ?hnames ?hq ?hs
      walk_at "m.comp"
      repeat' (walk_at "e")
      refine ⟨_, _, _, _, Over.lst B (bs'.map nAV) _ (by walk_at "mem"), TargetOk.name, by rw [List.length_map, sizeLine_eq]; omega,
        fun j ys Γ' => ys = ((bs'.take j).map fun (x : Nat) => AV.int (((dataOf ds).length : Int) + (x : Int))) ∧ Γ' = (B, .lst (bs'.map nAV)) :: (H, .lst (hs.map hAV)) :: (I, .itR ((i + 1 : Nat) : Int) (((1 + k : Nat) : Int) - ((i + 1 : Nat) : Int))) :: (r, .rng ((1 + k : Nat) : Int)) ::
        (bd, .lst ((bs ++ hs.map fun p => (dataOf ds).length + p.1).map nAV)) :: (hd, .dct (dctOf (headsFrom 0 ds ++ hs.map (shift (dataOf ds).length)))) :: (cm, .lst ((offs 0 ds).map cAV)) :: (b, .arr [.int q2]) ::
        (L, nsLaw a b cm hd bd (some (.int i)) (some (.byt fd)) (some (.ref H)) (some (.ref B)) o5 o6 none none none none) :: (c₂, .cell none) :: (c₁, .cell (some (.byt (dataOf ds)))) :: Γ, ?_, ?_, ?_, ?_, ?_⟩
      · exact ⟨rfl, rfl⟩
      · rintro j ys _ ⟨rfl, rfl⟩; walk_at "mem"
      · rintro j ys _ ⟨rfl, rfl⟩; rw [List.length_map]; exact List.length_take_le _ _
      · rintro C D I' j ys _ hj ⟨rfl, rfl⟩
        rw [List.length_map] at hj
        change W1 _ _ _ _ _ _ _ ((I', _) :: (C, AO.ns [(nm "offset", none)]) :: _) _
        rw [nat_item hj]
        repeat' (walk_at "e")
        refine ifs_nil (if_t rfl ?_)
        repeat' (walk_at "e")
        refine B_lenB (by omega) ?_
        repeat' (walk_at "e")
        exact ⟨_, _, by walk_at "sub", (take_map_step hj), rfl⟩
      rintro ys _ ⟨rfl, rfl⟩ D
      rw [List.length_map, List.take_length]
      repeat' (walk_at "e")
      refine' M_extend ?u3 ?m3 ?z3 ?k3
      case u3 => walk_at "upd"
      case m3 => walk_at "mem"
      case z3 => rw [sizeLine_eq]; simp only [List.length_map, List.length_append]; omega
      refine ⟨rfl, ?_⟩
      repeat' (walk_at "e")
      rw [extend_step]
      -- the command
      refine X_seq ?_
      repeat' (walk_at "e")
      walk_at "m.append"
      repeat' (walk_at "e")
      refine ⟨G_append (by walk_at "mem"), ?_⟩
      repeat' (walk_at "e")
      refine B_lenB (by omega) ?_
      repeat' (walk_at "e")
      refine ⟨by simp [sizeLine_eq], ?_⟩
      repeat' (walk_at "e")
      refine' M_append ?u4 ?z4 ?k4
      case u4 => walk_at "upd"
      case z4 => rw [sizeLine_eq, List.length_map]; omega
      refine ⟨rfl, ?_⟩
      repeat' (walk_at "e")
      refine X_seq ?_
      repeat' (walk_at "e")
      refine O_addB (by omega) ?_
      repeat' (walk_at "e")
      refine X_seq ?_
      repeat' (walk_at "e")
      walk_at "m.append"
      repeat' (walk_at "e")
      refine ⟨G_append (by walk_at "mem"), ?_⟩
      repeat' (walk_at "e")
      refine B_lenB (by rw [List.length_append]; omega) ?_
      repeat' (walk_at "e")
      refine' M_append ?u5 ?z5 ?k5
      case u5 => walk_at "upd"
      case z5 => rw [sizeLine_eq]; simp only [List.length_map, List.length_append]; omega
      refine ⟨rfl, ?_⟩
      repeat' (walk_at "e")
      rw [nat_snoc rfl]
      have ed : dataOf ds ++ fd = dataOf (ds ++ [(fd, hs)]) := (dataOf_snoc ds (fd, hs)).symm
      have eh : headsFrom 0 ds ++ hs.map (shift (dataOf ds).length) = headsFrom 0 (ds ++ [(fd, hs)]) := by rw [headsFrom_snoc, Nat.zero_add]
      have eo : (offs 0 ds).map cAV ++ [AV.tup [.int ((dataOf ds).length : Int), .byt fd]] = (offs 0 (ds ++ [(fd, hs)])).map cAV := by rw [offs_snoc, Nat.zero_add, List.map_append]; rfl
      rw [eo, eh, ed]
      refine turn_next ((I, .itR ((i + 1 : Nat) : Int) (((1 + k : Nat) : Int) - ((i + 1 : Nat) : Int))) :: (r, .rng ((1 + k : Nat) : Int)) ::
        (bd, .lst ((bs ++ (hs.map fun p => (dataOf ds).length + p.1) ++ (bs'.map fun x => (dataOf ds).length + x) ++ [(dataOf (ds ++ [(fd, hs)])).length]).map nAV)) :: (hd, .dct (dctOf (headsFrom 0 (ds ++ [(fd, hs)])))) :: (cm, .lst ((offs 0 (ds ++ [(fd, hs)])).map cAV)) :: (b, .arr [.int q2]) ::
        (L, nsLaw a b cm hd bd (some (.int i)) (some (.byt fd)) (some (.ref H)) (some (.ref B)) o5 o6 none none none none) :: (c₂, .cell none) :: (c₁, .cell (some (.byt (dataOf (ds ++ [(fd, hs)]))))) :: Γ) (by walk_at "sub") ?_
      refine ⟨_, rfl, q2, ds ++ [(fd, hs)], _, _, _, _, _, _, _, Doc.snoc hok hcmd, ?_, ?_, ?_, ?_, rfl⟩
      · rw [dataOf_snoc, List.length_append]; show (dataOf ds).length + fd.length ≤ _; omega
      · rw [offs_snoc, List.length_append, hol]; rfl
      · simp only [List.length_map, List.length_append, List.length_cons, List.length_nil]; omega
      · simp only [List.length_map, List.length_append, List.length_cons, List.length_nil]; omega
    · rintro _ ⟨q, ds, bs, o1, o2, o3, o4, o5, o6, hok, hdl, hol, hb0, hb1, rfl⟩
      exact mid_sub _ (by walk_at "sub") ⟨q, ds, bs, o1, o2, o3, o4, o5, o6, hok, by omega, by omega, hb0, by omega, rfl⟩
  rintro _ ⟨q, ds, bs, o1, o2, o3, o4, o5, o6, hok, hdl, hol, hb0, hb1, rfl⟩
  refine X_seqJ (fun Γ' => ∃ (q : Int) (o1 o2 o3 o4 o5 o6 o7 o8 o9 o10 oc : Option AV), Γ' = (bd, .lst (bs.map nAV)) :: (hd, .dct (dctOf (headsFrom 0 ds))) :: (cm, .lst ((offs 0 ds).map cAV)) :: (b, .arr [.int q]) ::
    (L, nsLaw a b cm hd bd o1 o2 o3 o4 o5 o6 o7 o8 o9 o10) :: (c₂, .cell oc) :: (c₁, .cell (some (.byt (dataOf ds)))) :: Γ) ?_ ?_
  · walk_at "m.for"
    repeat' (walk_at "e")
    refine B_range fun r => ?_
    refine ⟨6, _, _, _, Over.rng r 6 _ (.head _) (by decide), TargetOk.name, fun i Γ' => ∃ (q : Int) (o1 o2 o3 o4 o5 o6 o7 o8 o9 o10 oc : Option AV), Γ' = (r, .rng ((6 : Nat) : Int)) :: (bd, .lst (bs.map nAV)) :: (hd, .dct (dctOf (headsFrom 0 ds))) :: (cm, .lst ((offs 0 ds).map cAV)) :: (b, .arr [.int q]) ::
      (L, nsLaw a b cm hd bd o1 o2 o3 o4 o5 o6 o7 o8 o9 o10) :: (c₂, .cell oc) :: (c₁, .cell (some (.byt (dataOf ds)))) :: Γ, ?_, ?_, ?_, ?_⟩
    · exact ⟨q, _, _, _, _, _, _, _, _, _, _, _, rfl⟩
    · exact fun _ _ _ => trivial
    · rintro I i _ hi ⟨q, o1, o2, o3, o4, o5, o6, o7, o8, o9, o10, oc, rfl⟩
      repeat' (walk_at "e")
      -- the cut
      refine X_seq ?_
      repeat' (walk_at "e")
      refine' B_lenL ?vm1 ?vz1 ?vk1
      case vm1 => walk_at "mem"
      case vz1 => (rw [List.length_map]; omega)
      repeat' (walk_at "e")
      rw [List.length_map]
      refine WL.spot (by walk_at "spot") fun hf' => F_take G (hA2 _) hf' (by omega) (by omega) fun q2 => ?_
      obtain ⟨j, hj, ej⟩ : ∃ k : Nat, k < bs.length ∧ q.fmod (bs.length : Int) = (k : Int) := fmod_nat q hb0
      rw [ej]
      refine I_lst (by walk_at "mem") (Int.natCast_nonneg _) (by omega) (nats_at hj) ?_ (by walk_at "rfl2")
      repeat' (walk_at "e")
      refine WL.spot (by walk_at "spot") fun hf' => F_take G (hA2 _) hf' (by decide) (by decide) fun q3 => ?_
      repeat' (walk_at "e")
      refine X_seqJ (fun Γ' => ∃ (q : Int) (x : Int), Γ' = (I, .itR ((i + 1 : Nat) : Int) (((6 : Nat) : Int) - ((i + 1 : Nat) : Int))) :: (r, .rng ((6 : Nat) : Int)) :: (bd, .lst (bs.map nAV)) :: (hd, .dct (dctOf (headsFrom 0 ds))) :: (cm, .lst ((offs 0 ds).map cAV)) :: (b, .arr [.int q]) ::
        (L, nsLaw a b cm hd bd (some (.int i)) o2 o3 o4 o5 o6 o7 o8 o9 o10) :: (c₂, .cell (some (.int x))) :: (c₁, .cell (some (.byt (dataOf ds)))) :: Γ) ?_ ?_
      · repeat' (walk_at "e")
        refine if_b (fun _ => ?_) (fun _ => ?_)
        · refine X_seq ?_
          repeat' (walk_at "e")
          refine B_lenB (by omega) ?_
          repeat' (walk_at "e")
          refine WL.spot (by walk_at "spot") fun hf' => F_take G (hA2 _) hf' (by omega) (by omega) fun q4 => ?_
          repeat' (walk_at "e")
          exact mid_next ⟨_, _, rfl⟩
        · repeat' (walk_at "e")
          exact mid_next ⟨_, _, rfl⟩
      rintro _ ⟨q4, x, rfl⟩
      refine X_seq ?_
      repeat' (walk_at "e")
      refine B_max2 hh ?_
      repeat' (walk_at "e")
      refine B_lenB (by omega) ?_
      repeat' (walk_at "e")
      refine B_min2 hh ?_
      obtain ⟨c, hc, ec⟩ := clamp x (dataOf ds).length
      rw [ec]
      repeat' (walk_at "e")
      -- the part
      refine X_seq ?_
      repeat' (walk_at "e")
      refine ⟨_, rfl, by omega, ?_⟩
      repeat' (walk_at "e")
      refine ⟨_, rfl, ?_⟩
      rw [cut_upto _ hc]
      repeat' (walk_at "e")
      have hlenp : ((dataOf ds).take c).length = c := by rw [List.length_take]; omega
      obtain ⟨hS, hle, hW, hE⟩ := doc_run (c := c) (p := (dataOf ds).take c) hlenp ds 0 hok (Nat.zero_le _) (by rw [List.drop_zero, Nat.sub_zero])
      rw [Nat.zero_add] at hle
      rw [Nat.zero_add, List.drop_take] at hS
      -- the whole ones
      refine X_seq ?_
      refine' X_assignComp ?d1 [nm "first", nm "octets"] ?d2 ?d3 ?d4 ?d5 ?d6 ?d7 ?d8 ?d9
      case d1 => exact hh
      case d2 => decide
      case d3 => rfl
      case d4 => rfl
      case d5 => decide
      case d6 => rfl
      case d7 => decide
      case d9 => (intro _; rfl)
      repeat' (walk_at "e")
      refine CompOk.still (fun j ys => ys = wholeAV c ((offs 0 ds).take j)) (Over.lst cm ((offs 0 ds).map cAV) _ (by walk_at "mem")) (TargetOk.tup fun j hj => ?_) (by rw [List.length_map, sizeLine_eq]; omega) rfl ?_ ?_ ?_
      · rw [List.length_map] at hj
        exact ⟨_, cmd_item hj⟩
      · rintro j ys rfl
        exact whole_len _ _ _
      · rintro C D I' j ys hj rfl
        rw [List.length_map] at hj
        change W1 _ _ _ _ _ _ _ ((I', _) :: (C, AO.ns [(nm "first", none), (nm "octets", none)]) :: _) _
        rw [cmd_item hj]
        walk_at "m.atuple"
        repeat' (walk_at "e")
        refine ifs_one ?_
        repeat' (walk_at "e")
        have hol2 := offs_len (k := 0) _ (getD_in (d := (0, [])) hj)
        refine B_lenB (by omega) ?_
        repeat' (walk_at "e")
        refine if_b (fun hk => ?_) (fun hk => ?_)
        · repeat' (walk_at "e")
          have hk := of_decide_eq_true hk
          exact ⟨_, by walk_at "sub", whole_in hj (by omega)⟩
        · have hk := of_decide_eq_false hk
          exact ⟨_, by walk_at "sub", whole_out hj (by omega)⟩
      rintro ys rfl C D
      rw [List.length_map, List.take_length, whole_byt]
      walk_at "m.store"
      refine ⟨_, _, rfl, ?_⟩
      repeat' (walk_at "e")
      -- what is left
      refine X_seq ?_
      repeat' (walk_at "e")
      refine' E_comp ?e1 [nm "octets"] ?e2 ?e3 ?e4 ?e5 ?e6 ?e7 ?e8
      case e1 => exact hh
      case e2 => decide
      case e3 => rfl
      case e4 => decide
      case e5 => rfl
      case e6 => decide
      case e8 => (intro _; rfl)
      repeat' (walk_at "e")
      have hwl := wholes_len c 0 ds
      refine CompOk.still (fun j ys => ys = ((wholes c 0 ds).take j).map fun (x : List UInt8) => AV.int (x.length : Int)) (Over.lst D ((wholes c 0 ds).map AV.byt) _ (by walk_at "mem")) TargetOk.name (by rw [List.length_map, sizeLine_eq]; omega) rfl ?_ ?_ ?_
      · rintro j ys rfl
        rw [List.length_map]
        exact List.length_take_le _ _
      · rintro C D2 I' j ys hj rfl
        rw [List.length_map] at hj
        change W1 _ _ _ _ _ _ _ ((I', _) :: (C, AO.ns [(nm "octets", none)]) :: _) _
        rw [lens_item hj]
        repeat' (walk_at "e")
        refine ifs_nil (if_t rfl ?_)
        repeat' (walk_at "e")
        have hfl := flat_item (getD_in (d := []) hj)
        refine B_lenB (by omega) ?_
        repeat' (walk_at "e")
        exact ⟨_, by walk_at "sub", lens_step hj⟩
      rintro ys rfl D2
      rw [List.length_map, List.take_length, lens_ints]
      repeat' (walk_at "e")
      refine' B_sum ?vh2 ?vm2 ?vk2
      case vh2 => exact hh
      case vm2 => walk_at "mem"
      rw [sum_lens]
      repeat' (walk_at "e")
      -- the split
      refine X_seq ?_
      repeat' (walk_at "e")
      refine F_split G (hA' _) hh (by omega) hS fun S => ?_
      repeat' (walk_at "e")
      refine ⟨_, rfl, by omega, ?_⟩
      repeat' (walk_at "e")
      refine ⟨_, rfl, ?_⟩
      repeat' (walk_at "e")
      refine ⟨_, rfl, ?_⟩
      rw [cut_mid _ hle hc]
      repeat' (walk_at "e")
      refine ⟨by simp [sizeLine_eq], ?_⟩
      refine' C_neLB (l := (wholes c 0 ds).map AV.byt) ?vu3 ?vm3 ?vm4 ?vk3
      case vu3 =>
        rw [deps_byts]
        show A.units + 3 + 0 + 2 < cLine
        have : (5010 : Nat) < cLine := by decide
        omega
      case vm3 => walk_at "mem"
      case vm4 => walk_at "mem"
      repeat' (walk_at "e")
      refine if_f rfl ?_
      repeat' (walk_at "e")
      -- the literal that is wanted
      refine X_seq ?_
      repeat' (walk_at "e")
      refine F_wanted G (hA' _) hh (by omega) hW ?_
      repeat' (walk_at "e")
      walk_at "m.get"
      repeat' (walk_at "e")
      refine ⟨G_get (by walk_at "mem"), ?_⟩
      repeat' (walk_at "e")
      refine' M_get hds ?vm5 ?vk5
      case vm5 => walk_at "mem"
      rw [dct_find]
      refine' C_neHv ?vu6 ?vk6
      case vu6 =>
        show A.units + 3 + 2 < cLine
        have : (5010 : Nat) < cLine := by decide
        omega
      repeat' (walk_at "e")
      refine if_f rfl ?_
      repeat' (walk_at "e")
      -- the ends
      refine X_seqJ (fun Γ' => ∃ (p2 p6 p8 : Option AV), Γ' = (I, .itR ((i + 1 : Nat) : Int) (((6 : Nat) : Int) - ((i + 1 : Nat) : Int))) :: (r, .rng ((6 : Nat) : Int)) :: (bd, .lst (bs.map nAV)) :: (hd, .dct (dctOf (headsFrom 0 ds))) :: (cm, .lst ((offs 0 ds).map cAV)) :: (b, .arr [.int q4]) ::
        (L, nsLaw a b cm hd bd (some (.int i)) p2 o3 o4 o5 p6 (some (.byt ((dataOf ds).take c))) p8 (some (.ref D)) (some (.int ((wholes c 0 ds).flatten.length : Int)))) :: (c₂, .cell (some (.int (c : Int)))) :: (c₁, .cell (some (.byt (dataOf ds)))) :: Γ) ?_ ?_
      · refine Wp.drop (Γ' := (I, .itR ((i + 1 : Nat) : Int) (((6 : Nat) : Int) - ((i + 1 : Nat) : Int))) :: (r, .rng ((6 : Nat) : Int)) :: (bd, .lst (bs.map nAV)) :: (hd, .dct (dctOf (headsFrom 0 ds))) :: (cm, .lst ((offs 0 ds).map cAV)) :: (b, .arr [.int q4]) ::
        (L, nsLaw a b cm hd bd (some (.int i)) o2 o3 o4 o5 o6 (some (.byt ((dataOf ds).take c))) o8 (some (.ref D)) (some (.int ((wholes c 0 ds).flatten.length : Int)))) :: (c₂, .cell (some (.int (c : Int)))) :: (c₁, .cell (some (.byt (dataOf ds)))) :: Γ) ?_ (by walk_at "sub")
        walk_at "m.for"
        repeat' (walk_at "e")
        refine ⟨_, _, _, _, Over.lst cm ((offs 0 ds).map cAV) _ (by walk_at "mem"), TargetOk.tup (fun j hj => ?_), fun j Γ' => ∃ (p2 p6 p8 : Option AV), Γ' = (I, .itR ((i + 1 : Nat) : Int) (((6 : Nat) : Int) - ((i + 1 : Nat) : Int))) :: (r, .rng ((6 : Nat) : Int)) :: (bd, .lst (bs.map nAV)) :: (hd, .dct (dctOf (headsFrom 0 ds))) :: (cm, .lst ((offs 0 ds).map cAV)) :: (b, .arr [.int q4]) ::
        (L, nsLaw a b cm hd bd (some (.int i)) p2 o3 o4 o5 p6 (some (.byt ((dataOf ds).take c))) p8 (some (.ref D)) (some (.int ((wholes c 0 ds).flatten.length : Int)))) :: (c₂, .cell (some (.int (c : Int)))) :: (c₁, .cell (some (.byt (dataOf ds)))) :: Γ, ?_, ?_, ?_, ?_⟩
        · rw [List.length_map] at hj
          exact ⟨_, cmd_item hj⟩
        · exact ⟨_, _, _, rfl⟩
        · rintro j _ ⟨p2, p6, p8, rfl⟩; walk_at "mem"
        · rintro I2 j _ hj ⟨p2, p6, p8, rfl⟩
          rw [List.length_map] at hj
          rw [cmd_item hj]
          have hin := getD_in (d := (0, [])) hj
          generalize (offs 0 ds).getD j (0, []) = qq at hin ⊢
          have hol3 := offs_len (k := 0) _ hin
          walk_at "m.atuple"
          repeat' (walk_at "e")
          refine X_seq ?_
          repeat' (walk_at "e")
          refine if_b (fun hk => ?_) (fun hk => ?_)
          · have hk := of_decide_eq_true hk
            obtain ⟨o, he⟩ := hE _ hin (by omega)
            refine X_seqJ (fun Γ' => ∃ x : Int, x = due c qq ∧ Γ' = (I2, .itL cm (j + 1)) :: (I, .itR ((i + 1 : Nat) : Int) (((6 : Nat) : Int) - ((i + 1 : Nat) : Int))) :: (r, .rng ((6 : Nat) : Int)) :: (bd, .lst (bs.map nAV)) :: (hd, .dct (dctOf (headsFrom 0 ds))) :: (cm, .lst ((offs 0 ds).map cAV)) :: (b, .arr [.int q4]) ::
        (L, nsLaw a b cm hd bd (some (.int i)) (some (.byt qq.2)) o3 o4 o5 (some (.int x)) (some (.byt ((dataOf ds).take c))) (some (.int (qq.1 : Int))) (some (.ref D)) (some (.int ((wholes c 0 ds).flatten.length : Int)))) :: (c₂, .cell (some (.int (c : Int)))) :: (c₁, .cell (some (.byt (dataOf ds)))) :: Γ) ?_ ?_
            · repeat' (walk_at "e")
              refine B_lenB (by omega) ?_
              repeat' (walk_at "e")
              refine if_b (fun hk2 => ?_) (fun hk2 => ?_)
              · have hk2 := of_decide_eq_true hk2
                repeat' (walk_at "e")
                refine B_lenB (by omega) ?_
                repeat' (walk_at "e")
                exact mid_next ⟨_, due_yes (by omega), rfl⟩
              · have hk2 := of_decide_eq_false hk2
                repeat' (walk_at "e")
                exact mid_next ⟨_, due_no (by omega), rfl⟩
            rintro _ ⟨x, rfl, rfl⟩
            refine X_seq ?_
            repeat' (walk_at "e")
            refine F_end G (Nat.lt_trans (hA' _) (by decide)) hh (by omega) (by omega) he ?_
            repeat' (walk_at "e")
            refine I_tup (l := [.int (due c qq), hv o]) (by decide) (by decide) rfl ?_ (by walk_at "rfl2")
            repeat' (walk_at "e")
            refine if_f (by simp) ?_
            repeat' (walk_at "e")
            exact turn_next _ (List.Sublist.refl _) ⟨_, rfl, _, _, _, rfl⟩
          · repeat' (walk_at "e")
            exact turn_next _ (List.Sublist.refl _) ⟨_, rfl, _, _, _, rfl⟩
        · rintro _ ⟨p2, p6, p8, rfl⟩
          exact mid_next ⟨p2, p6, p8, rfl⟩
      rintro _ ⟨p2, p6, p8, rfl⟩
      repeat' (walk_at "e")
      exact turn_next _ (List.Sublist.refl _) ⟨_, rfl, _, _, _, _, _, _, _, _, _, _, _, _, rfl⟩
    · rintro _ ⟨q, o1, o2, o3, o4, o5, o6, o7, o8, o9, o10, oc, rfl⟩
      exact mid_sub _ (by walk_at "sub") ⟨q, o1, o2, o3, o4, o5, o6, o7, o8, o9, o10, oc, rfl⟩
  rintro _ ⟨q, o1, o2, o3, o4, o5, o6, o7, o8, o9, o10, oc, rfl⟩
  refine X_seq ?_
  repeat' (walk_at "e")
  exact back_ret Γ (by walk_at "sub") h
end
end
end Mine

open PySem PySem.W PyProof.Rows
set_option maxRecDepth 100000 in
set_option maxHeartbeats 8000000 in
theorem PySem.Challenge.cw_no0348_01_holds : PySem.Challenge.rw_no0348_01.Holds := by
  refine Mine.hd ?_
  k_fill
  intro w s₀ s₁ mg mb G Y fa o pm cd doc dV kV ho hdd hcd hD hmg hg args vals as hpre hlay hrd hwl hlo
  have KX := kIn_of Y
  have X := (Ground.X G).1
  have V := (Ground.X G).2
  refine Ground.open G ?_
  intro T B D TE TW
  clear D
  wrow_args hpre hlay hrd hwl hlo
  have e85 := mg_of KX T.g (rfl : nsIn (Mine.hd.heap_39 w.params) mainGlobals (PySem.Str.ofString "law") = some (some (.ref 85)))
  have e85 : fa = 85 := by have := hmg.symm.trans e85; injection this with this; injection this
  subst e85
  clear hdd hD hcd hmg ho G Y
  have hI := ‹IntsAre _ _›
  have hL := ‹Heap.IsList _ _ _›
  have hc := ‹¬ _›
  have S : Mine.St PySem.Challenge.rw_no0348_01.row.prog w s₁ [] s₁ := ⟨⟨s₁.heap, s₁.toks, rfl⟩, fun _ _ e => e, (fun _ h => nomatch h), (fun _ h => nomatch h), List.nodup_nil⟩
  have hlen := hI.length
  have R := Mine.F_law (prog := PySem.Challenge.rw_no0348_01.row.prog) (A := callerA) (Γ := []) (Q := fun a _ => a = Mine.AV.bool true) ⟨KX, _, _, _, _, topRead_of T⟩ (by decide) rfl (by decide) hL hI (by rw [sizeLine_eq]; omega) rfl s₁ _ S (Mine.VRs.one (Mine.VR_raw.mpr rfl))
  refine wpAny_mono R (fun v s' h => ?_) (fun _ _ h => h.elim)
  obtain ⟨_, a, Γ, r, S', rfl⟩ := h
  cases Mine.VR_raw.mp r
  obtain ⟨⟨h', tk, rfl⟩, keep, _, _, _⟩ := S'
  exact GoodW.toG ⟨.inl ⟨_, _, [], rfl, raisesW_false (by wrow_none_raised), .bool true, by wrow_post, unshared_nil⟩, keep, rfl, hg⟩
