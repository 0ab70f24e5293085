import PyProof.Rows.All
import Wide.All
import OpenK.AllK
import Wide.FinOn
import Lean
import PySem.Challenge.RW_no0049_01
set_option Elab.async false
set_option maxRecDepth 100000
open PySem PySem.W PyProof.Rows PySem.Calls
open PySem.SeqAt (EqAt RcAt)
namespace Tq
/-- an item of a frame or of a subject, up to Python's equality; opq: an item that nobody looks at -/
inductive Ky where
  | none
  | num (i : Int)
  | str (x : PySem.Str)
  | bytes (b : List UInt8)
  | opq
  deriving DecidableEq

def isKy : Ky → Value → Bool
  | .none, .none => true
  | .num i, .int j _ => i == j
  | .num i, .bool b => i == (if b then 1 else 0)
  | .str x, .str y _ => y == x
  | .bytes b, .bytes c _ => c.toList == b
  | _, _ => false

theorem isKy_inj (v : Value) (a b : Ky) (ha : isKy a v = true) (hb : isKy b v = true) : a = b := by
  cases a <;> cases v <;> simp_all [isKy] <;> cases b <;> simp_all [isKy]

theorem isKy_byValue (k : Ky) (v : Value) (h : isKy k v = true) : carriedByValue v = true := by
  cases v <;> first | rfl | (cases k <;> simp [isKy] at h)

def hashKy (w : World) : Ky → Int
  | .none => 0xFCA86420
  | .num i => hashInt i
  | .str x => hashStr w x
  | .bytes b => hashW w.params (.bytes b)
  | .opq => 0

section eqs
variable {A : Around} {s : Shared}
theorem sub_i_b : isSubtype (.type "int") (.type "bytes") = pure false := by rw [isSubtype_type]; kernel_rfl
theorem sub_b_i : isSubtype (.type "bytes") (.type "int") = pure false := by rw [isSubtype_type]; kernel_rfl
theorem sub_o_b : isSubtype (.type "bool") (.type "bytes") = pure false := by rw [isSubtype_type]; kernel_rfl
theorem sub_b_o : isSubtype (.type "bytes") (.type "bool") = pure false := by rw [isSubtype_type]; kernel_rfl
theorem sub_s_b : isSubtype (.type "str") (.type "bytes") = pure false := by rw [isSubtype_type]; kernel_rfl
theorem sub_b_s : isSubtype (.type "bytes") (.type "str") = pure false := by rw [isSubtype_type]; kernel_rfl
theorem sub_n_b : isSubtype (.type "NoneType") (.type "bytes") = pure false := by rw [isSubtype_type]; kernel_rfl
theorem sub_b_n : isSubtype (.type "bytes") (.type "NoneType") = pure false := by rw [isSubtype_type]; kernel_rfl

theorem bytes_eq_int (a : Array UInt8) (t : Tok) (b : Int) (u : Tok) : Gives (Builtin.«bytes.__eq__» ⟨[.bytes a t, .int b u], []⟩) (.val Value.notImplemented) :=
  .of_wp fun M A E s Q h => by obtain ⟨hp, g, d, tk, os⟩ := s; have f1 := sub_i_b; wp_walk; exact ⟨_, rfl, h⟩
theorem bytes_eq_bool (a : Array UInt8) (t : Tok) (b : Bool) : Gives (Builtin.«bytes.__eq__» ⟨[.bytes a t, .bool b], []⟩) (.val Value.notImplemented) :=
  .of_wp fun M A E s Q h => by obtain ⟨hp, g, d, tk, os⟩ := s; have f1 := sub_o_b; wp_walk; exact ⟨_, rfl, h⟩
theorem bytes_eq_str (a : Array UInt8) (t : Tok) (b : PySem.Str) (u : Tok) : Gives (Builtin.«bytes.__eq__» ⟨[.bytes a t, .str b u], []⟩) (.val Value.notImplemented) :=
  .of_wp fun M A E s Q h => by obtain ⟨hp, g, d, tk, os⟩ := s; have f1 := sub_s_b; wp_walk; exact ⟨_, rfl, h⟩
theorem bytes_eq_none (a : Array UInt8) (t : Tok) : Gives (Builtin.«bytes.__eq__» ⟨[.bytes a t, .none], []⟩) (.val Value.notImplemented) :=
  .of_wp fun M A E s Q h => by obtain ⟨hp, g, d, tk, os⟩ := s; have f1 := sub_n_b; wp_walk; exact ⟨_, rfl, h⟩
theorem int_eq_bytes (a : Array UInt8) (t : Tok) (b : Int) (u : Tok) : Gives (Builtin.«int.__eq__» ⟨[.int b u, .bytes a t], []⟩) (.val Value.notImplemented) :=
  .of_wp fun M A E s Q h => by obtain ⟨hp, g, d, tk, os⟩ := s; have f1 := sub_b_i; wp_walk; exact ⟨_, rfl, h⟩
theorem bool_eq_bytes (a : Array UInt8) (t : Tok) (b : Bool) : Gives (Builtin.«int.__eq__» ⟨[.bool b, .bytes a t], []⟩) (.val Value.notImplemented) :=
  .of_wp fun M A E s Q h => by obtain ⟨hp, g, d, tk, os⟩ := s; have f1 := sub_b_i; wp_walk; exact ⟨_, rfl, h⟩
theorem str_eq_bytes (a : Array UInt8) (t : Tok) (b : PySem.Str) (u : Tok) : Gives (Builtin.«str.__eq__» ⟨[.str b u, .bytes a t], []⟩) (.val Value.notImplemented) :=
  .of_wp fun M A E s Q h => by obtain ⟨hp, g, d, tk, os⟩ := s; have f1 := sub_b_s; wp_walk; exact ⟨_, rfl, h⟩
theorem none_eq_bytes (a : Array UInt8) (t : Tok) : Gives (Builtin.«NoneType.__eq__» ⟨[.none, .bytes a t], []⟩) (.val Value.notImplemented) :=
  .of_wp fun M A E s Q h => by obtain ⟨hp, g, d, tk, os⟩ := s; wp_walk; exact ⟨_, rfl, h⟩

theorem slot_bytes_eq2 : Slot "bytes" (cmpInfo .Eq).2.2 "bytes.__eq__" := FB.slot_bytes_eq
theorem rc_bytes_int (a : Array UInt8) (t : Tok) (b : Int) (u : Tok) : RcAt A s (.bytes a t) (.int b u) false := fun prog w E Q h =>
  SeqAt.rc_eq_decline_or (k := false) rfl rfl (by decide) sub_i_b FB.slot_bytes_eq F.slot_int_eq_refl
    (fun _ hq => call_gives FB.slot_bytes_eq rfl FB.entry_bytes_eq (FB.args_bytes_eq_2 _ _) (bytes_eq_int a t b u) hq)
    (fun _ hq => call_gives F.slot_int_eq_refl rfl F.entry_int_eq (F.args_int_eq_2 _ _) (int_eq_bytes a t b u) hq)
    (fun _ hq => wpAny_of_eq (rfl : isSame (.bytes a t) (.int b u) = pure false) hq) (.inl rfl) h
theorem eq_bytes_int (a : Array UInt8) (t : Tok) (b : Int) (u : Tok) : EqAt A s (.bytes a t) (.int b u) false := fun prog w E Q h => by
  unfold eqBool
  refine wpAny_holding ?_
  refine wpAny_ite_split (fun hab => absurd (eq_of_beq hab) nofun) (fun _ => ?_)
  exact wpAny_bind (rc_bytes_int _ _ _ _ prog w E _ (wpAny_truthy_bool h))
theorem rc_int_bytes (a : Array UInt8) (t : Tok) (b : Int) (u : Tok) : RcAt A s (.int b u) (.bytes a t) false := fun prog w E Q h =>
  SeqAt.rc_eq_decline_or (k := false) rfl rfl (by decide) sub_b_i F.slot_int_eq slot_bytes_eq2
    (fun _ hq => call_gives F.slot_int_eq rfl F.entry_int_eq (F.args_int_eq_2 _ _) (int_eq_bytes a t b u) hq)
    (fun _ hq => call_gives slot_bytes_eq2 rfl FB.entry_bytes_eq (FB.args_bytes_eq_2 _ _) (bytes_eq_int a t b u) hq)
    (fun _ hq => wpAny_of_eq (rfl : isSame (.int b u) (.bytes a t) = pure false) hq) (.inl rfl) h
theorem eq_int_bytes (a : Array UInt8) (t : Tok) (b : Int) (u : Tok) : EqAt A s (.int b u) (.bytes a t) false := fun prog w E Q h => by
  unfold eqBool
  refine wpAny_holding ?_
  refine wpAny_ite_split (fun hab => absurd (eq_of_beq hab) nofun) (fun _ => ?_)
  exact wpAny_bind (rc_int_bytes _ _ _ _ prog w E _ (wpAny_truthy_bool h))
theorem rc_bytes_bool (a : Array UInt8) (t : Tok) (b : Bool) : RcAt A s (.bytes a t) (.bool b) false := fun prog w E Q h =>
  SeqAt.rc_eq_decline_or (k := false) rfl rfl (by decide) sub_o_b FB.slot_bytes_eq F.slot_bool_eq_refl
    (fun _ hq => call_gives FB.slot_bytes_eq rfl FB.entry_bytes_eq (FB.args_bytes_eq_2 _ _) (bytes_eq_bool a t b) hq)
    (fun _ hq => call_gives F.slot_bool_eq_refl rfl F.entry_int_eq (F.args_int_eq_2 _ _) (bool_eq_bytes a t b) hq)
    (fun _ hq => wpAny_of_eq (rfl : isSame (.bytes a t) (.bool b) = pure false) hq) (.inl rfl) h
theorem eq_bytes_bool (a : Array UInt8) (t : Tok) (b : Bool) : EqAt A s (.bytes a t) (.bool b) false := fun prog w E Q h => by
  unfold eqBool
  refine wpAny_holding ?_
  refine wpAny_ite_split (fun hab => absurd (eq_of_beq hab) nofun) (fun _ => ?_)
  exact wpAny_bind (rc_bytes_bool _ _ _ prog w E _ (wpAny_truthy_bool h))
theorem rc_bool_bytes (a : Array UInt8) (t : Tok) (b : Bool) : RcAt A s (.bool b) (.bytes a t) false := fun prog w E Q h =>
  SeqAt.rc_eq_decline_or (k := false) rfl rfl (by decide) sub_b_o F.slot_bool_eq slot_bytes_eq2
    (fun _ hq => call_gives F.slot_bool_eq rfl F.entry_int_eq (F.args_int_eq_2 _ _) (bool_eq_bytes a t b) hq)
    (fun _ hq => call_gives slot_bytes_eq2 rfl FB.entry_bytes_eq (FB.args_bytes_eq_2 _ _) (bytes_eq_bool a t b) hq)
    (fun _ hq => wpAny_of_eq (rfl : isSame (.bool b) (.bytes a t) = pure false) hq) (.inl rfl) h
theorem eq_bool_bytes (a : Array UInt8) (t : Tok) (b : Bool) : EqAt A s (.bool b) (.bytes a t) false := fun prog w E Q h => by
  unfold eqBool
  refine wpAny_holding ?_
  refine wpAny_ite_split (fun hab => absurd (eq_of_beq hab) nofun) (fun _ => ?_)
  exact wpAny_bind (rc_bool_bytes _ _ _ prog w E _ (wpAny_truthy_bool h))
theorem rc_bytes_str (a : Array UInt8) (t : Tok) (b : PySem.Str) (u : Tok) : RcAt A s (.bytes a t) (.str b u) false := fun prog w E Q h =>
  SeqAt.rc_eq_decline_or (k := false) rfl rfl (by decide) sub_s_b FB.slot_bytes_eq F.slot_str_eq_refl
    (fun _ hq => call_gives FB.slot_bytes_eq rfl FB.entry_bytes_eq (FB.args_bytes_eq_2 _ _) (bytes_eq_str a t b u) hq)
    (fun _ hq => call_gives F.slot_str_eq_refl rfl F.entry_str_eq (F.args_str_eq_2 _ _) (str_eq_bytes a t b u) hq)
    (fun _ hq => wpAny_of_eq (rfl : isSame (.bytes a t) (.str b u) = pure false) hq) (.inl rfl) h
theorem eq_bytes_str (a : Array UInt8) (t : Tok) (b : PySem.Str) (u : Tok) : EqAt A s (.bytes a t) (.str b u) false := fun prog w E Q h => by
  unfold eqBool
  refine wpAny_holding ?_
  refine wpAny_ite_split (fun hab => absurd (eq_of_beq hab) nofun) (fun _ => ?_)
  exact wpAny_bind (rc_bytes_str _ _ _ _ prog w E _ (wpAny_truthy_bool h))
theorem rc_str_bytes (a : Array UInt8) (t : Tok) (b : PySem.Str) (u : Tok) : RcAt A s (.str b u) (.bytes a t) false := fun prog w E Q h =>
  SeqAt.rc_eq_decline_or (k := false) rfl rfl (by decide) sub_b_s F.slot_str_eq slot_bytes_eq2
    (fun _ hq => call_gives F.slot_str_eq rfl F.entry_str_eq (F.args_str_eq_2 _ _) (str_eq_bytes a t b u) hq)
    (fun _ hq => call_gives slot_bytes_eq2 rfl FB.entry_bytes_eq (FB.args_bytes_eq_2 _ _) (bytes_eq_str a t b u) hq)
    (fun _ hq => wpAny_of_eq (rfl : isSame (.str b u) (.bytes a t) = pure false) hq) (.inl rfl) h
theorem eq_str_bytes (a : Array UInt8) (t : Tok) (b : PySem.Str) (u : Tok) : EqAt A s (.str b u) (.bytes a t) false := fun prog w E Q h => by
  unfold eqBool
  refine wpAny_holding ?_
  refine wpAny_ite_split (fun hab => absurd (eq_of_beq hab) nofun) (fun _ => ?_)
  exact wpAny_bind (rc_str_bytes _ _ _ _ prog w E _ (wpAny_truthy_bool h))
theorem rc_bytes_none (a : Array UInt8) (t : Tok)  : RcAt A s (.bytes a t) (.none) false := fun prog w E Q h =>
  SeqAt.rc_eq_decline_or (k := false) rfl rfl (by decide) sub_n_b FB.slot_bytes_eq F.slot_NoneType_eq_refl
    (fun _ hq => call_gives FB.slot_bytes_eq rfl FB.entry_bytes_eq (FB.args_bytes_eq_2 _ _) (bytes_eq_none a t) hq)
    (fun _ hq => call_gives F.slot_NoneType_eq_refl rfl F.entry_NoneType_eq (F.args_NoneType_eq_2 _ _) (none_eq_bytes a t) hq)
    (fun _ hq => wpAny_of_eq (rfl : isSame (.bytes a t) (.none) = pure false) hq) (.inl rfl) h
theorem eq_bytes_none (a : Array UInt8) (t : Tok)  : EqAt A s (.bytes a t) (.none) false := fun prog w E Q h => by
  unfold eqBool
  refine wpAny_holding ?_
  refine wpAny_ite_split (fun hab => absurd (eq_of_beq hab) nofun) (fun _ => ?_)
  exact wpAny_bind (rc_bytes_none _ _  prog w E _ (wpAny_truthy_bool h))
theorem rc_none_bytes (a : Array UInt8) (t : Tok)  : RcAt A s (.none) (.bytes a t) false := fun prog w E Q h =>
  SeqAt.rc_eq_decline_or (k := false) rfl rfl (by decide) sub_b_n F.slot_NoneType_eq slot_bytes_eq2
    (fun _ hq => call_gives F.slot_NoneType_eq rfl F.entry_NoneType_eq (F.args_NoneType_eq_2 _ _) (none_eq_bytes a t) hq)
    (fun _ hq => call_gives slot_bytes_eq2 rfl FB.entry_bytes_eq (FB.args_bytes_eq_2 _ _) (bytes_eq_none a t) hq)
    (fun _ hq => wpAny_of_eq (rfl : isSame (.none) (.bytes a t) = pure false) hq) (.inl rfl) h
theorem eq_none_bytes (a : Array UInt8) (t : Tok)  : EqAt A s (.none) (.bytes a t) false := fun prog w E Q h => by
  unfold eqBool
  refine wpAny_holding ?_
  refine wpAny_ite_split (fun hab => absurd (eq_of_beq hab) nofun) (fun _ => ?_)
  exact wpAny_bind (rc_none_bytes _ _  prog w E _ (wpAny_truthy_bool h))
theorem eq_bytes_bytes (a : Array UInt8) (t : Tok) (b : Array UInt8) (u : Tok) : EqAt A s (.bytes a t) (.bytes b u) (decide (a.toList = b.toList)) := fun _ _ _ _ h => eqBool_bytes h
theorem eq_none_none : EqAt A s .none .none true := fun prog w E Q h => by
  unfold eqBool
  refine wpAny_holding ?_
  refine wpAny_ite_split (fun _ => wpAny_bind (wpAny_rule (wpAny_pure h))) (fun hab => absurd rfl hab)

theorem eqTo {a b : Value} {x y : Bool} (h : EqAt A s a b x) (e : x = y) : EqAt A s a b y := e ▸ h

theorem ky_shape {a : Ky} {u : Value} (h : isKy a u = true) :
    (a = .none ∧ u = .none) ∨ (∃ b : Bool, a = .num (if b then 1 else 0) ∧ u = .bool b) ∨ (∃ i t, a = .num i ∧ u = .int i t) ∨ (∃ x t, a = .str x ∧ u = .str x t) ∨ (∃ b t, a = .bytes b.toList ∧ u = .bytes b t) := by
  cases u with
  | none => cases a <;> first | exact .inl ⟨rfl, rfl⟩ | exact absurd h Bool.false_ne_true
  | bool b => cases a <;> first | exact absurd h Bool.false_ne_true | exact .inr (.inl ⟨b, by rw [eq_of_beq h], rfl⟩)
  | int i t => cases a <;> first | exact absurd h Bool.false_ne_true | exact .inr (.inr (.inl ⟨i, t, by rw [eq_of_beq h], rfl⟩))
  | str x t => cases a <;> first | exact absurd h Bool.false_ne_true | exact .inr (.inr (.inr (.inl ⟨x, t, by rw [eq_of_beq h], rfl⟩)))
  | bytes b t => cases a <;> first | exact absurd h Bool.false_ne_true | exact .inr (.inr (.inr (.inr ⟨b, t, by rw [eq_of_beq h], rfl⟩)))
  | _ => cases a <;> exact absurd h Bool.false_ne_true

theorem dec_num {i j : Int} : decide (Ky.num i = Ky.num j) = (i == j) := by rw [Bool.eq_iff_iff]; simp
theorem dec_str {i j : PySem.Str} : decide (Ky.str i = Ky.str j) = (i == j) := by rw [Bool.eq_iff_iff]; simp
theorem dec_bytes {i j : List UInt8} : decide (Ky.bytes i = Ky.bytes j) = decide (i = j) := by rw [Bool.eq_iff_iff]; simp
theorem dec_bool {p q : Bool} : (((if p then 1 else 0 : Int)) == (if q then 1 else 0)) = (p == q) := by cases p <;> cases q <;> rfl

theorem eqAt_ky {a b : Ky} {u v : Value} (hu : isKy a u = true) (hv : isKy b v = true) : EqAt A s u v (decide (a = b)) := by
  rcases ky_shape hu with ⟨rfl, rfl⟩ | ⟨p, rfl, rfl⟩ | ⟨p, pt, rfl, rfl⟩ | ⟨p, pt, rfl, rfl⟩ | ⟨p, pt, rfl, rfl⟩ <;>
    rcases ky_shape hv with ⟨rfl, rfl⟩ | ⟨q, rfl, rfl⟩ | ⟨q, qt, rfl, rfl⟩ | ⟨q, qt, rfl, rfl⟩ | ⟨q, qt, rfl, rfl⟩
  · exact eqTo eq_none_none (decide_eq_true rfl).symm
  · exact eqTo (EqAt.none_bool  q) (decide_eq_false (fun e => by cases e)).symm
  · exact eqTo (EqAt.none_int  q qt) (decide_eq_false (fun e => by cases e)).symm
  · exact eqTo (EqAt.none_str  q qt) (decide_eq_false (fun e => by cases e)).symm
  · exact eqTo (eq_none_bytes q qt ) (decide_eq_false (fun e => by cases e)).symm
  · exact eqTo (EqAt.bool_none p ) (decide_eq_false (fun e => by cases e)).symm
  · exact eqTo (EqAt.bool_bool p q) (by rw [dec_num, dec_bool])
  · exact eqTo (EqAt.bool_int p q qt) (by rw [dec_num])
  · exact eqTo (EqAt.bool_str p q qt) (decide_eq_false (fun e => by cases e)).symm
  · exact eqTo (eq_bool_bytes q qt p) (decide_eq_false (fun e => by cases e)).symm
  · exact eqTo (EqAt.int_none p pt ) (decide_eq_false (fun e => by cases e)).symm
  · exact eqTo (EqAt.int_bool p pt q) (by rw [dec_num])
  · exact eqTo (EqAt.int_int p pt q qt) (by rw [dec_num])
  · exact eqTo (EqAt.int_str p pt q qt) (decide_eq_false (fun e => by cases e)).symm
  · exact eqTo (eq_int_bytes q qt p pt) (decide_eq_false (fun e => by cases e)).symm
  · exact eqTo (EqAt.str_none p pt ) (decide_eq_false (fun e => by cases e)).symm
  · exact eqTo (EqAt.str_bool p pt q) (decide_eq_false (fun e => by cases e)).symm
  · exact eqTo (EqAt.str_int p pt q qt) (decide_eq_false (fun e => by cases e)).symm
  · exact eqTo (EqAt.str_str p pt q qt) (by rw [dec_str])
  · exact eqTo (eq_str_bytes q qt p pt) (decide_eq_false (fun e => by cases e)).symm
  · exact eqTo (eq_bytes_none p pt ) (decide_eq_false (fun e => by cases e)).symm
  · exact eqTo (eq_bytes_bool p pt q) (decide_eq_false (fun e => by cases e)).symm
  · exact eqTo (eq_bytes_int p pt q qt) (decide_eq_false (fun e => by cases e)).symm
  · exact eqTo (eq_bytes_str p pt q qt) (decide_eq_false (fun e => by cases e)).symm
  · exact eqTo (eq_bytes_bytes p pt q qt) (by rw [dec_bytes])
end eqs

theorem kyHash {w : World} {prog : Program} {A : Around} {E : Value → Shared → Prop} {s : Shared} {k : Ky} {v : Value} {Q : Int → Shared → Prop} (hv : isKy k v = true) (h : Q (hashKy w k) { s with toks := s.toks + 1 }) :
    wpAny (model prog w) A (PySem.pyHash v) Q E s := by
  cases v <;> cases k <;> simp only [isKy, Bool.false_eq_true, beq_iff_eq] at hv
  · exact pyHash_slot (T := "NoneType") rfl F.slot_NoneType_hash F.entry_NoneType_hash (F.args_NoneType_hash_1 _) (beq_builtin_none _) (.inl rfl) (wpAny_bind (wpAny_pure (wpAny_bind (wpAny_mkInt (wpAny_pure ⟨_, _, rfl, h⟩)))))
  · subst hv
    refine pyHash_slot (T := "bool") rfl F.slot_bool_hash entry_int_hash (args_int_hash _) (beq_builtin_none _) (.inl rfl) ?_
    rename_i b
    cases b
    · exact (show wpAny _ _ (do ret (← mkInt 0)) _ _ s from wpAny_bind (wpAny_mkInt (wpAny_pure ⟨_, _, rfl, h⟩)))
    · exact (show wpAny _ _ (do ret (← mkInt 1)) _ _ s from wpAny_bind (wpAny_mkInt (wpAny_pure ⟨_, _, rfl, h⟩)))
  · subst hv; exact wpAny_pyHash_int h
  · subst hv; exact wpAny_pyHash_str h
  · subst hv
    refine pyHash_slot (T := "bytes") rfl FB.slot_bytes_hash FB.entry_bytes_hash (FB.args_bytes_hash_1 _) (beq_builtin_none _) (.inl rfl) ?_
    rename_i b t
    show wpAny _ _ (strHash ⟨b.map (·.toNat)⟩ >>= fun i => (do ret (← mkInt i))) _ _ s
    unfold strHash
    exact wpAny_bind (wpAny_bind (wpAny_askSetting (wpAny_pure (wpAny_bind (wpAny_mkInt (wpAny_pure ⟨_, _, rfl, h⟩))))))

def kyKind (prog : Program) (w : World) : KeyKind prog w Ky where
  is := isKy
  hash := hashKy w
  inj := isKy_inj
  byValue := isKy_byValue
  pyHash := fun hv h => kyHash hv h
  eqBool := fun {A E s a b u v Q} hu hv h => eqAt_ky hu hv prog w E Q h
  «strs» := fun k x t v h => by
    cases k <;> simp only [isKy, Bool.false_eq_true, beq_iff_eq] at h
    subst h
    cases v <;> first | rfl | simp [isKy, Value.isStr]

/-- no exception leaves -/
abbrev NoE : Value → Shared → Prop := fun _ _ => False

def isTp (o : Obj) : Prop := o.cls = .type "tuple" ∧ ∃ vs n, o.data = .seq vs n
def TupSub (h h' : Heap) : Prop := ∀ b o, h.get? b = some o → isTp o → h'.get? b = some o
theorem TupSub.refl (h : Heap) : TupSub h h := fun _ _ e _ => e
theorem TupSub.trans {a b c : Heap} (x : TupSub a b) (y : TupSub b c) : TupSub a c := fun p o e t => y p o (x p o e t) t

/-- everything but what ex names is as it was -/
structure KeepsX (ex : List Addr) (s s' : Shared) : Prop where
  alike : ∃ h tk, s' = { s with heap := h, toks := tk }
  keep : ∀ b o, b ∉ ex → s.heap.get? b = some o → s'.heap.get? b = some o

structure St (g : Heap) (s0 : Shared) (ex : List Addr) (own : List (Addr × (Obj → Prop))) (z : Heap) (s : Shared) : Prop where
  alike : ∃ h tk, s = { s0 with heap := h, toks := tk }
  sub : ∀ b o, g.get? b = some o → s0.heap.get? b = some o ∧ b ∉ ex
  keep : ∀ b o, b ∉ ex → s0.heap.get? b = some o → s.heap.get? b = some o
  hold : ∀ p ∈ own, (∃ o, s.heap.get? p.1 = some o ∧ p.2 o ∧ ¬ isTp o) ∧ (p.1 ∈ ex ∨ s0.heap.get? p.1 = none)
  nd : (own.map (·.1)).Nodup
  tu : TupSub z s.heap

section
variable {g : Heap} {s0 : Shared} {ex : List Addr} {own : List (Addr × (Obj → Prop))} {z : Heap} {s s' : Shared}

theorem St.gkeep (S : St g s0 ex own z s) : ∀ b o, g.get? b = some o → s.heap.get? b = some o := fun b o e => let ⟨x, y⟩ := S.sub b o e; S.keep b o y x

theorem St.toks (S : St g s0 ex own z s) (t : Nat) : St g s0 ex own z { s with toks := t } :=
  ⟨let ⟨h, tk, e⟩ := S.alike; ⟨h, t, by rw [e]⟩, S.sub, S.keep, S.hold, S.nd, S.tu⟩

theorem St.up (S : St g s0 ex own z s) : St g s0 ex own s.heap s := ⟨S.alike, S.sub, S.keep, S.hold, S.nd, TupSub.refl _⟩

theorem St.at (S : St g s0 ex own z s) {a : Addr} {P : Obj → Prop} (hm : (a, P) ∈ own) : ∃ o, s.heap.get? a = some o ∧ P o ∧ ¬ isTp o := (S.hold _ hm).1

theorem St.grow (S : St g s0 ex own z s) {h' : Heap} {tk : Nat} (hk : ∀ b o, s.heap.get? b = some o → h'.get? b = some o) : St g s0 ex own z { s with heap := h', toks := tk } where
  alike := let ⟨_, _, e⟩ := S.alike; ⟨h', tk, by rw [e]⟩
  sub := S.sub
  keep := fun b o hb e => hk _ _ (S.keep b o hb e)
  hold := fun p hp => let ⟨⟨o, e, r⟩, q⟩ := S.hold p hp; ⟨⟨o, hk _ _ e, r⟩, q⟩
  nd := S.nd
  tu := fun b o e t => hk _ _ (S.tu b o e t)

theorem St.keeps (S : St g s0 ex own z s) (K : KeepsX [] s s') : St g s0 ex own z s' := by
  obtain ⟨h, tk, rfl⟩ := K.alike
  exact S.grow fun b o e => K.keep b o (by simp) e

theorem St.push (S : St g s0 ex own z s) (o : Obj) {P : Obj → Prop} (hP : P o) (hc : ¬ isTp o) (hf : o.isFreed = false := by rfl) :
    St g s0 ex ((s.heap.objs.size, P) :: own) z { s with heap := s.heap.push o } := by
  have S' : St g s0 ex own z { s with heap := s.heap.push o } := S.grow (tk := s.toks) fun b o' e => Heap.get?_push_of_some _ e
  have hnew : s.heap.get? s.heap.objs.size = none := by
    cases e : s.heap.get? s.heap.objs.size with
    | none => rfl
    | some o' => exact absurd (Heap.lt_size e) (Nat.lt_irrefl _)
  refine ⟨S'.alike, S'.sub, S'.keep, ?_, ?_, S'.tu⟩
  · intro p hp
    rcases List.mem_cons.mp hp with rfl | hp
    · refine ⟨⟨o, Heap.get?_push_size _ hf, hP, hc⟩, ?_⟩
      by_cases hx : s.heap.objs.size ∈ ex
      · exact .inl hx
      · refine .inr ?_
        cases e : s0.heap.get? s.heap.objs.size with
        | none => rfl
        | some o' => have := S.keep _ _ hx e; rw [hnew] at this; cases this
    · exact S'.hold p hp
  · rw [List.map_cons, List.nodup_cons]
    refine ⟨?_, S.nd⟩
    intro hm
    obtain ⟨p, hp, e⟩ := List.mem_map.mp hm
    obtain ⟨⟨o', e', _⟩, _⟩ := S.hold p hp
    rw [e, hnew] at e'
    cases e'

theorem St.change {pre post : List (Addr × (Obj → Prop))} {a : Addr} {P P' : Obj → Prop} (S : St g s0 ex (pre ++ (a, P) :: post) z s) {h' : Heap} {tk : Nat} {o' : Obj}
    (hk : ∀ b o, b ≠ a → s.heap.get? b = some o → h'.get? b = some o) (ho : h'.get? a = some o') (hP : P' o') (hc : ¬ isTp o') :
    St g s0 ex (pre ++ (a, P') :: post) z { s with heap := h', toks := tk } := by
  have hmem : (a, P) ∈ pre ++ (a, P) :: post := List.mem_append.mpr (.inr (.head _))
  have hnd := S.nd
  rw [List.map_append, List.map_cons, List.nodup_append, List.nodup_cons] at hnd
  obtain ⟨_, ⟨n2, _⟩, n3⟩ := hnd
  have hne : ∀ p, p ∈ pre ∨ p ∈ post → p.1 ≠ a := by
    rintro p (hp | hp) e
    · exact n3 p.1 (List.mem_map.mpr ⟨p, hp, rfl⟩) a (.head _) e
    · exact n2 (e ▸ List.mem_map.mpr ⟨p, hp, rfl⟩)
  have hna : ∀ b o, b ∉ ex → s0.heap.get? b = some o → b ≠ a := by
    intro b o hb e rfl
    rcases (S.hold _ hmem).2 with h | h
    · exact hb h
    · rw [e] at h; cases h
  refine ⟨let ⟨_, _, e⟩ := S.alike; ⟨h', tk, by rw [e]⟩, S.sub, fun b o hb e => hk _ _ (hna b o hb e) (S.keep b o hb e), ?_, ?_, ?_⟩
  · intro p hp
    have old : ∀ p, p ∈ pre ∨ p ∈ post → (∃ o, h'.get? p.1 = some o ∧ p.2 o ∧ ¬ isTp o) ∧ (p.1 ∈ ex ∨ s0.heap.get? p.1 = none) := fun p hp => by
      have hm : p ∈ pre ++ (a, P) :: post := List.mem_append.mpr (hp.imp id fun h => .tail _ h)
      obtain ⟨⟨o, e, r⟩, q⟩ := S.hold p hm
      exact ⟨⟨o, hk _ _ (hne p hp) e, r⟩, q⟩
    rcases List.mem_append.mp hp with hp | hp
    · exact old p (.inl hp)
    · rcases List.mem_cons.mp hp with rfl | hp
      · exact ⟨⟨o', ho, hP, hc⟩, (S.hold _ hmem).2⟩
      · exact old p (.inr hp)
  · have := S.nd
    simpa only [List.map_append, List.map_cons] using this
  · intro b o e t
    have h1 := S.tu b o e t
    refine hk b o ?_ h1
    rintro rfl
    obtain ⟨⟨o1, e1, _, c1⟩, _⟩ := S.hold _ hmem
    rw [h1] at e1
    cases e1
    exact c1 t

/-- an object changes, and what is said of it stands -/
theorem St.same {a : Addr} {P : Obj → Prop} (S : St g s0 ex own z s) (hm : (a, P) ∈ own) {h' : Heap} {tk : Nat} {o' : Obj}
    (hk : ∀ b o, b ≠ a → s.heap.get? b = some o → h'.get? b = some o) (ho : h'.get? a = some o') (hP : P o') (hc : ¬ isTp o') : St g s0 ex own z { s with heap := h', toks := tk } := by
  obtain ⟨pre, post, rfl⟩ := List.append_of_mem hm
  exact S.change hk ho hP hc

theorem St.mono {own' : List (Addr × (Obj → Prop))} (S : St g s0 ex own z s) (hs : ∀ p ∈ own', p ∈ own) (hn : (own'.map (·.1)).Nodup) : St g s0 ex own' z s := ⟨S.alike, S.sub, S.keep, fun p hp => S.hold p (hs p hp), hn, S.tu⟩
theorem St.tail {p : Addr × (Obj → Prop)} (S : St g s0 ex (p :: own) z s) : St g s0 ex own z s :=
  S.mono (fun _ h => .tail _ h) (by have := S.nd; rw [List.map_cons, List.nodup_cons] at this; exact this.2)
theorem St.drop2 {p q : Addr × (Obj → Prop)} (S : St g s0 ex (p :: q :: own) z s) : St g s0 ex (p :: own) z s :=
  S.mono (fun _ h => by rcases List.mem_cons.mp h with rfl | h; exact .head _; exact .tail _ (.tail _ h))
    (by have := S.nd; simp only [List.map_cons, List.nodup_cons, List.mem_cons, not_or] at this ⊢; exact ⟨this.1.2, this.2.2⟩)
theorem St.swap {p q : Addr × (Obj → Prop)} (S : St g s0 ex (p :: q :: own) z s) : St g s0 ex (q :: p :: own) z s :=
  S.mono (fun _ h => by rcases List.mem_cons.mp h with rfl | h; exact .tail _ (.head _); rcases List.mem_cons.mp h with rfl | h; exact .head _; exact .tail _ (.tail _ h))
    (by have := S.nd; simp only [List.map_cons, List.nodup_cons, List.mem_cons, not_or] at this ⊢; exact ⟨⟨fun e => this.1.1 e.symm, this.2.1⟩, this.1.2, this.2.2⟩)
theorem St.done (S : St g s0 ex own z s) : KeepsX ex s0 s := ⟨S.alike, S.keep⟩
theorem St.ofKeeps {own' : List (Addr × (Obj → Prop))} {P : Addr × (Obj → Prop)} (S : St g s0 ex (P :: own) z s) (hs : own' = own) : St g s0 ex own' z s := hs ▸ S.tail
end

/-! what stands at an address -/
def nsP (m : PySem.Str → Option Value) : Obj → Prop := fun o => ∃ es ep, o.data = .dict es ep ∧ StrKeys es ∧ ∀ name, nsFind es name = m name
def cellP (v : Option Value) : Obj → Prop := fun o => o.data = .cell v
def listP (vs : List Value) : Obj → Prop := fun o => o.cls = .type "list" ∧ ∃ n, o.data = .seq vs.toArray n
def plainP (vs : List Value) : Obj → Prop := fun o => ∃ n, o = { cls := .type "list", data := .seq vs.toArray n }
theorem plainP_list {vs : List Value} {o : Obj} (h : plainP vs o) : listP vs o := let ⟨n, e⟩ := h; by subst e; exact ⟨rfl, n, rfl⟩
theorem nsP_tp {m : PySem.Str → Option Value} {o : Obj} (h : nsP m o) : ¬ isTp o := fun ⟨_, _, _, e⟩ => let ⟨_, _, e', _⟩ := h; by rw [e] at e'; cases e'
theorem cellP_tp {v : Option Value} {o : Obj} (h : cellP v o) : ¬ isTp o := fun ⟨_, _, _, e⟩ => by unfold cellP at h; rw [e] at h; cases h
theorem listP_tp {vs : List Value} {o : Obj} (h : listP vs o) : ¬ isTp o := fun ⟨c, _⟩ => by rw [h.1] at c; injection c with c; exact absurd c (by decide)

theorem plainP_tp {vs : List Value} {o : Obj} (h : plainP vs o) : ¬ isTp o := listP_tp (plainP_list h)

section
variable {g : Heap} {s0 : Shared} {ex : List Addr} {own : List (Addr × (Obj → Prop))} {z : Heap} {s s' : Shared} {prog : Program} {w : World} {A : Around} {env : Env} {L : Addr} {m : PySem.Str → Option Value} {x : PySem.Str} {v : Value}

theorem St.ns (S : St g s0 ex own z s) (hm : (L, nsP m) ∈ own) : s.heap.Ns L m := let ⟨o, e, ⟨es, ep, r⟩, _⟩ := S.at hm; ⟨o, es, ep, e, r⟩
theorem St.cell {c : Addr} {v : Option Value} (S : St g s0 ex own z s) (hm : (c, cellP v) ∈ own) : s.heap.IsCell c v := let ⟨o, e, r, _⟩ := S.at hm; ⟨o, e, r⟩
theorem St.list {a : Addr} {vs : List Value} (S : St g s0 ex own z s) (hm : (a, listP vs) ∈ own) : s.heap.IsList a vs.toArray := let ⟨o, e, ⟨hc, hd⟩, _⟩ := S.at hm; ⟨o, e, hc, hd⟩

theorem St.plain {a : Addr} {vs : List Value} (S : St g s0 ex own z s) (hm : (a, plainP vs) ∈ own) : s.heap.PlainList a vs.toArray := let ⟨_, e, ⟨n, q⟩, _⟩ := S.at hm; ⟨n, q ▸ e⟩
theorem St.plainL {a : Addr} {vs : List Value} (S : St g s0 ex own z s) (hm : (a, plainP vs) ∈ own) : s.heap.IsList a vs.toArray := (S.plain hm).isList

theorem ldL {pos : Pos} {Q : Value → Shared → Prop} (S : St g s0 ex own z s) (hm : (L, nsP m) ∈ own) (hv : m x = some v) (h : Q v s)
    (hL : env.locals = L := by rfl) (hk : env.scope.kind = .function := by rfl) (hl : env.kindOf x = some .local := by rfl) (hd : (x == ("__debug__" : PySem.Str)) = false := by rfl) :
    wpAny (model prog w) A (eval (.Name x pos) env) Q NoE s := wpAny_Name (wpAny_loadName_local hk hl (hL ▸ S.ns hm) hv h) hd
theorem ldC {pos : Pos} {c : Addr} {Q : Value → Shared → Prop} (S : St g s0 ex own z s) (hc : env.cells.lookup x = some c) (hm : (c, cellP (some v)) ∈ own) (h : Q v s)
    (hk : env.scope.kind = .function := by rfl) (hl : env.kindOf x = some .cell := by rfl) (hd : (x == ("__debug__" : PySem.Str)) = false := by rfl) :
    wpAny (model prog w) A (eval (.Name x pos) env) Q NoE s := wpAny_Name (wpAny_loadName_cell hk hl hc (S.cell hm) h) hd

/-- the top's names, and the built-in ones -/
structure Names (g : Heap) (mg mb : PySem.Str → Option Value) : Prop where
  gl : g.Ns mainGlobals mg
  bl : g.Ns builtinsNs mb
  nolimit : g.NoLimit

/-- the built-ins that the text names -/
structure Blt (mg mb : PySem.Str → Option Value) : Prop where
  nlen : mg "len" = none
  blen : mb "len" = some (.builtin "len")
  nabs : mg "abs" = none
  babs : mb "abs" = some (.builtin "abs")
  nbytes : mg "bytes" = none
  bbytes : mb "bytes" = some (.type "bytes")
  nint : mg "int" = none
  bint : mb "int" = some (.type "int")
  nsum : mg "sum" = none
  bsum : mb "sum" = some (.builtin "sum")
  nrange : mg "range" = none
  brange : mb "range" = some (.type "range")
  nenumerate : mg "enumerate" = none
  benumerate : mb "enumerate" = some (.type "enumerate")
  nsorted : mg "sorted" = none
  bsorted : mb "sorted" = some (.builtin "sorted")
  nlist : mg "list" = none
  blist : mb "list" = some (.type "list")
  ntuple : mg "tuple" = none
  btuple : mb "tuple" = some (.type "tuple")

theorem ldG {pos : Pos} {mg mb : PySem.Str → Option Value} {Q : Value → Shared → Prop} (S : St g s0 ex own z s) (N : Names g mg mb) (hv : mg x = some v) (h : Q v s)
    (hk : env.scope.kind = .function := by rfl) (hl : env.kindOf x = some .globalImplicit := by rfl) (hg : env.globals = mainGlobals := by rfl) (hd : (x == ("__debug__" : PySem.Str)) = false := by rfl) :
    wpAny (model prog w) A (eval (.Name x pos) env) Q NoE s :=
  wpAny_Name (ks_loadName_global hk hl (loadGlobal_global (hg ▸ N.gl.keeps S.gkeep) hv h)) hd
theorem ldB {pos : Pos} {mg mb : PySem.Str → Option Value} {Q : Value → Shared → Prop} (S : St g s0 ex own z s) (N : Names g mg mb) (hn : mg x = none) (hv : mb x = some v) (h : Q v s)
    (hk : env.scope.kind = .function := by rfl) (hl : env.kindOf x = some .globalImplicit := by rfl) (hg : env.globals = mainGlobals := by rfl) (hb : env.builtins = builtinsNs := by rfl) (hd : (x == ("__debug__" : PySem.Str)) = false := by rfl) :
    wpAny (model prog w) A (eval (.Name x pos) env) Q NoE s :=
  wpAny_Name (ks_loadName_global hk hl (loadGlobal_builtin (hg ▸ N.gl.keeps S.gkeep) hn (hb ▸ N.bl.keeps S.gkeep) hv h)) hd

theorem nsOf {h : Heap} (n : h.Ns L m) : ∃ o, h.get? L = some o ∧ nsP m o := let ⟨o, es, ep, e, r⟩ := n; ⟨o, e, es, ep, r⟩

theorem stL {post : List (Addr × (Obj → Prop))} {Q : Unit → Shared → Prop} (S : St g s0 ex ((L, nsP m) :: post) z s)
    (h : ∀ s₁, St g s0 ex ((L, nsP fun y => if y = x then some v else m y) :: post) z s₁ → Q () s₁)
    (hL : env.locals = L := by rfl) (hk : env.scope.kind = .function := by rfl) (hl : env.kindOf x = some .local := by rfl) : wpAny (model prog w) A (storeName env x v) Q NoE s := by
  have hmem : (L, nsP m) ∈ (L, nsP m) :: post := .head _
  subst hL
  refine wpAny_storeName_local hl (S.ns hmem) (fun h' hn hs => ?_) (by rw [hk]; rfl)
  obtain ⟨o, e, q⟩ := nsOf hn
  exact h _ (S.change (pre := []) (tk := s.toks + 1) (fun b o hb e => hs.extBut b o hb e) e q (nsP_tp q))

/-- a store into a cell: the entry behind the locals -/
theorem stC {p : Addr × (Obj → Prop)} {post : List (Addr × (Obj → Prop))} {c : Addr} {v₀ : Option Value} {Q : Unit → Shared → Prop} (S : St g s0 ex (p :: (c, cellP v₀) :: post) z s)
    (h : ∀ s₁, St g s0 ex (p :: (c, cellP (some v)) :: post) z s₁ → Q () s₁)
    (hc : env.cells.lookup x = some c := by rfl) (hk : env.scope.kind = .function := by rfl) (hl : env.kindOf x = some .cell := by rfl) : wpAny (model prog w) A (storeName env x v) Q NoE s := by
  have hmem : (c, cellP v₀) ∈ p :: (c, cellP v₀) :: post := .tail _ (.head _)
  refine wpAny_storeName_cell hk hl hc (S.cell hmem) (fun h' hn hs => ?_)
  obtain ⟨o, e, q⟩ := hn
  exact h _ (S.change (pre := [p]) (tk := s.toks) (fun b o hb e => hs.extBut b o hb e) e q (cellP_tp q))

theorem cStr {y : PySem.Str} {k : Nat} {pos : Pos} {Q : Value → Shared → Prop} (S : St g s0 ex own z s) (h : ∀ t s₁, St g s0 ex own z s₁ → Q (.str y t) s₁) : wpAny (model prog w) A (eval (.Constant (.str y) k pos) env) Q NoE s :=
  Constant_str (h _ _ (S.toks _))
theorem cInt {i : Int} {k : Nat} {pos : Pos} {Q : Value → Shared → Prop} (S : St g s0 ex own z s) (h : ∀ t s₁, St g s0 ex own z s₁ → Q (.int i t) s₁) : wpAny (model prog w) A (eval (.Constant (.int i) k pos) env) Q NoE s :=
  wpAny_Constant_int (h _ _ (S.toks _))

theorem mkTup {vs : List Value} {Q : Value → Shared → Prop} (S : St g s0 ex own z s) (hz : vs.length ≤ sizeLine)
    (h : ∀ a s₁, St g s0 ex own z s₁ → KeepsX [] s s₁ → IsTup s₁.heap a vs.toArray → Q (.ref a) s₁) : wpAny (model prog w) A (newTuple vs) Q NoE s := by
  refine wpAny_newObj_type ?_ (by show vs.toArray.size ≤ sizeLine; rw [List.size_toArray]; exact hz)
  have hk : ∀ b o, s.heap.get? b = some o → (s.heap.push { cls := .type "tuple", dict := none, data := .seq vs.toArray }).get? b = some o := fun b o e => Heap.get?_push_of_some _ e
  have S' := S.grow (tk := s.toks) hk
  exact h _ _ S' ⟨⟨_, s.toks, rfl⟩, fun b o _ e => hk b o e⟩ ⟨_, Heap.get?_push_size _ rfl, rfl, 0, rfl⟩
theorem mkList {p0 : Addr × (Obj → Prop)} {vs : List Value} {Q : Value → Shared → Prop} (S : St g s0 ex (p0 :: own) z s) (hz : vs.length ≤ sizeLine)
    (h : ∀ a s₁, St g s0 ex (p0 :: (a, plainP vs) :: own) z s₁ → Q (.ref a) s₁) : wpAny (model prog w) A (newList vs) Q NoE s := by
  refine wpAny_newObj_type ?_ (by show vs.toArray.size ≤ sizeLine; rw [List.size_toArray]; exact hz)
  exact h _ _ (S.push _ ⟨0, rfl⟩ (plainP_tp ⟨0, rfl⟩)).swap
end

/-! calls of the text's own defs -/
def GSub (g : Heap) (s : Shared) : Prop := ∀ b o, g.get? b = some o → s.heap.get? b = some o
def FnIs (g : Heap) (a : Addr) (name : PySem.Str) (params : Arguments) (body : List Stmt) (scope : Scope) : Prop :=
  ∃ o pm cd doc, g.get? a = some o ∧ o.data = .func (docDef name params body scope pm cd doc) ∧ g.CodeRec cd name

def retv : Flow → Value
  | .ret v => v
  | _ => .none

/-- what may be said of a call's room -/
structure Room (A : Around) (k : Nat) : Prop where
  handled : A.handled = none
  depth : A.depth + k < recursionLimit
  units : A.units + 4 * k + 20 < cLine
theorem Room.deeper {A : Around} {k : Nat} (R : Room A (k + 1)) (env : Env) : Room (A.deeper env) k :=
  ⟨R.handled, by have := R.depth; show A.depth + 1 + k < _; omega, by have := R.units; show A.units + 3 + 4 * k + 20 < _; omega⟩
theorem Room.less {A : Around} {k j : Nat} (R : Room A k) (h : j ≤ k) : Room A j := ⟨R.handled, by have := R.depth; omega, by have := R.units; omega⟩
theorem Room.u {A : Around} {k : Nat} (R : Room A k) : A.units < cLine := by have := R.units; omega
theorem Room.u1 {A : Around} {k : Nat} (R : Room A k) : A.in1.units < cLine := by have := R.units; show A.units + 1 < _; omega
theorem Room.u2 {A : Around} {k : Nat} (R : Room A k) : A.in1.in1.units < cLine := by have := R.units; show A.units + 1 + 1 < _; omega

section
variable {g : Heap} {s : Shared} {prog : Program} {w : World} {A : Around} {a : Addr} {name : PySem.Str} {params : Arguments} {body : List Stmt} {scope : Scope} {vs : List Value} {mg mb : PySem.Str → Option Value}

/-- a def without cells -/
theorem callP {k : Nat} {binds : List (PySem.Str × Value)} {ex : List Addr} {own : List (Addr × (Obj → Prop))} {Q : Value → Shared → Prop} (hg : GSub g s) (N : Names g mg mb) (hf : FnIs g a name params body scope) (R : Room A (k + 1))
    (hx : ∀ b o, g.get? b = some o → b ∉ ex) (hown : ∀ p ∈ own, (∃ o, s.heap.get? p.1 = some o ∧ p.2 o ∧ ¬ isTp o) ∧ p.1 ∈ ex) (hnd : (own.map (·.1)).Nodup)
    (hbind : ∀ pm cd doc, bindArgs (docDef name params body scope pm cd doc) ⟨vs, []⟩ = pure binds)
    (hloc : (binds.all fun x => decide (scope.names.lookup x.1 = some .local)) = true)
    (h : ∀ cd L s₁, Room (A.deeper (envOf name scope L a cd)) k → St g s ex ((L, nsP fun x => binds.reverse.lookup x) :: own) s.heap s₁ →
      wpAny (model prog w) (A.deeper (envOf name scope L a cd)) (execs body (envOf name scope L a cd)) (fun fl s' => Q (retv fl) s') NoE s₁)
    (hco : scope.isCoroutine = false := by rfl) (hgen : scope.isGenerator = false := by rfl) (hk : scope.kind = .function := by rfl) (hcell : ∀ x ∈ scope.names, x.2 ≠ .cell := by decide) :
    wpAny (model prog w) A (call (.ref a) vs) Q NoE s := by
  obtain ⟨o, pm, cd, doc, ho, hd, hc⟩ := hf
  refine wpAny_call (call_plain_ret (by have := R.depth; omega) (hg _ _ ho) hd (N.nolimit.keeps hg) (hc.keeps hg) (hbind pm cd doc) (locs hloc) (fun h₁ F => ?_) hco hgen hk hcell)
  refine wpAny_mono (h cd _ _ (R.deeper _) ⟨⟨_, _, rfl⟩, fun b o e => ⟨hg _ _ e, hx _ _ e⟩, fun b o _ e => F.keep b o e, ?_, ?_, fun b o e _ => F.keep b o e⟩) (fun fl s' q => by cases fl <;> exact q) fun _ _ e => e
  · intro p hp
    rcases List.mem_cons.mp hp with rfl | hp
    · obtain ⟨oL, eL, q⟩ := nsOf F.ns
      refine ⟨⟨oL, eL, q, nsP_tp q⟩, .inr ?_⟩
      cases e : s.heap.get? s.heap.objs.size with
      | none => rfl
      | some o' => exact absurd (Heap.lt_size e) (Nat.lt_irrefl _)
    · obtain ⟨⟨o, e, r⟩, q⟩ := hown p hp
      exact ⟨⟨o, F.keep _ _ e, r⟩, .inl q⟩
  · rw [List.map_cons, List.nodup_cons]
    refine ⟨fun hm => ?_, hnd⟩
    obtain ⟨p, hp, e⟩ := List.mem_map.mp hm
    obtain ⟨⟨o, e', _⟩, _⟩ := hown p hp
    rw [e] at e'
    exact Nat.lt_irrefl _ (Heap.lt_size e')
end

/-! the text's own defs, by their place in it -/
def nameAt (n : Nat) : PySem.Str := match PySem.Challenge.pw_no0049_01.main.body[n]? with
  | some (.FunctionDef x _ _ _ _ _ _ _ _ _) => x
  | _ => ""
def argsAt (n : Nat) : Arguments := match PySem.Challenge.pw_no0049_01.main.body[n]? with
  | some (.FunctionDef _ a _ _ _ _ _ _ _ _) => a
  | _ => ⟨[], [], none, [], [], none, []⟩
def bodyAt (n : Nat) : List Stmt := match PySem.Challenge.pw_no0049_01.main.body[n]? with
  | some (.FunctionDef _ _ b _ _ _ _ _ _ _) => b
  | _ => []
def scopeAt (n : Nat) : Scope := match PySem.Challenge.pw_no0049_01.main.body[n]? with
  | some (.FunctionDef _ _ _ _ _ _ sc _ _ _) => sc
  | _ => default
def FnN (g : Heap) (a : Addr) (n : Nat) : Prop := FnIs g a (nameAt n) (argsAt n) (bodyAt n) (scopeAt n)

def anewL : List PySem.Str := ["new_connection_id", "retire_connection_id", "new_token", "handshake_done", "stop_sending", "reset_stream"]
def holdL : List PySem.Str := ["crypto", "stream"]
def latL : List PySem.Str := ["max_data", "max_stream_data", "max_streams"]
def blkL : List PySem.Str := ["data_blocked", "stream_data_blocked", "streams_blocked"]
def wayOf (x : PySem.Str) : PySem.Str := if anewL.contains x then "same" else if holdL.contains x then "holder" else if latL.contains x then "latest" else if blkL.contains x then "blocked" else "never"

/-- a table of texts of the top -/
def TupS (g : Heap) (mg : PySem.Str → Option Value) (n : PySem.Str) (ss : List PySem.Str) : Prop := ∃ a vs, mg n = some (.ref a) ∧ IsTup g a vs.toArray ∧ StrsAre vs ss

section
variable {g : Heap} {s0 : Shared} {ex : List Addr} {own : List (Addr × (Obj → Prop))} {z : Heap} {s s' : Shared} {prog : Program} {w : World} {A : Around} {env : Env}

theorem inStrs {a : Addr} {vs : List Value} {ss : List PySem.Str} {x : PySem.Str} {t : Tok} {Q : Value → Shared → Prop} (hT : IsTup s.heap a vs.toArray) (hs : StrsAre vs ss) (h : Q (.bool (ss.contains x)) s) :
    wpAny (model prog w) A (compareOp .In (.str x t) (.ref a)) Q NoE s := by
  refine SeqAt.in_tupleAt (fun v => v.isStr x) hT (fun y hy => ?_) ?_
  · have hy' : y ∈ vs := by simpa using hy
    have : ∃ u tu, y = .str u tu := by
      clear h hT hy
      revert hy'
      induction hs with
      | nil => intro hy'; cases hy'
      | cons _ _ _ ih => intro hy'; rcases List.mem_cons.mp hy' with rfl | hy'; exact ⟨_, _, rfl⟩; exact ih hy'
    obtain ⟨u, tu, rfl⟩ := this
    exact eqTo (EqAt.str_str _ _ _ _) rfl
  · have e : (vs.toArray.any fun v => v.isStr x) = ss.contains x := by
      rw [List.any_toArray]
      clear h hT
      induction hs with
      | nil => rfl
      | cons _ _ _ ih => rw [List.any_cons, ih, List.contains_cons, Value.isStr]; congr 1; exact BEq.comm
    rw [e]; exact h
end

theorem neT {b : Bool} (h : b = false) : ¬ b = true := by rw [h]; exact Bool.false_ne_true
theorem iteB {b : Bool} {P Q : Prop} (h1 : b = true → P) (h2 : b = false → Q) : if b = true then P else Q := by cases b <;> simp_all
theorem tupG {g : Heap} {s0 : Shared} {ex : List Addr} {own : List (Addr × (Obj → Prop))} {z : Heap} {s : Shared} (S : St g s0 ex own z s) {a : Addr} {vs : Array Value} (h : IsTup g a vs) : IsTup s.heap a vs :=
  let ⟨o, e, r⟩ := h; ⟨o, S.gkeep _ _ e, r⟩

local macro_rules | `(tactic| walk_at "q") => `(tactic| with_reducible refine wpAny_execs_cons ?_)
local macro_rules | `(tactic| walk_at "q") => `(tactic| with_reducible refine wpAny_execs_nil ?_)
local macro_rules | `(tactic| walk_at "q") => `(tactic| with_reducible refine wpAny_If ?_)
local macro_rules | `(tactic| walk_at "q") => `(tactic| with_reducible refine wpAny_Return_some ?_)
local macro_rules | `(tactic| walk_at "q") => `(tactic| ((with_reducible refine wpAny_isTrue_Compare1 ?_ ?hm); (case hm => with_unfolding_all rfl)))
local macro_rules | `(tactic| walk_at "q") => `(tactic| ((with_reducible refine wpAny_Compare1 ?_ ?hm); (case hm => with_unfolding_all rfl)))
local macro_rules | `(tactic| walk_at "q") => `(tactic| with_reducible refine IfExp_ ?_)
local macro_rules | `(tactic| walk_at "q") => `(tactic| ((with_reducible refine' cStr ?S ?_); (case S => assumption); intro _ _ _))
local macro_rules | `(tactic| walk_at "q") => `(tactic| ((with_reducible refine' cInt ?S ?_); (case S => assumption); intro _ _ _))
local macro_rules | `(tactic| walk_at "q") => `(tactic| ((with_reducible refine' ldL ?S ?m ?v ?_ ?d ?a ?b ?c); (case S => assumption); (case d => rfl); (case m => k_mem); (case v => first | rfl | assumption); (case a => rfl); (case b => rfl); (case c => rfl)))
local macro_rules | `(tactic| walk_at "q") => `(tactic| ((with_reducible refine' stL ?S ?_ ?d ?a ?b); (case S => assumption); (case d => rfl); (case a => rfl); (case b => rfl); intro _ _))
local macro_rules | `(tactic| walk_at "q") => `(tactic| with_reducible refine Tuple_ ?_)
local macro_rules | `(tactic| walk_at "q") => `(tactic| with_reducible refine List_ ?_)
local macro_rules | `(tactic| walk_at "q") => `(tactic| with_reducible refine wpAny_items_nil ?_)
local macro_rules | `(tactic| walk_at "q") => `(tactic| ((with_reducible refine wpAny_items_cons ?_ ?he); (case he => rfl)))
local macro_rules | `(tactic| walk_at "q") => `(tactic| with_reducible refine Constant_none ?_)
local macro_rules | `(tactic| walk_at "q") => `(tactic| with_reducible refine Constant_bool ?_)
local macro_rules | `(tactic| walk_at "q") => `(tactic| with_reducible refine wpAny_truthy_bool ?_)
theorem szle {n : Nat} (h : Nat.ble n 100 = true) : n ≤ sizeLine := by have := Nat.le_of_ble_eq_true h; rw [sizeLine_eq]; omega
local macro_rules | `(tactic| walk_at "q") => `(tactic| ((with_reducible refine' inStrs ?T ?s ?_); (case T => assumption); (case s => assumption)))
local macro_rules | `(tactic| walk_at "q") => `(tactic| ((with_reducible refine' mkTup ?S ?z ?_); (case S => assumption); (case z => exact szle rfl); intro _ _ _ _ _))
local macro_rules | `(tactic| walk_at "q") => `(tactic| ((with_reducible refine' mkList ?S ?z ?_); (case S => assumption); (case z => exact szle rfl); intro _ _ _))
local macro_rules | `(tactic| walk_at "q") => `(tactic| with_reducible refine PyProof.Rows.eq_str ?_)
local macro_rules | `(tactic| walk_at "qs") => `(tactic| repeat' (first | walk_at "q" | fail "no step"))

structure WayTabs (g : Heap) (mg : PySem.Str → Option Value) : Prop where
  anew : TupS g mg "ANEW" anewL
  hold : TupS g mg "BY_HOLDER" holdL
  lat : TupS g mg "LATEST" latL
  blk : TupS g mg "WHILE_BLOCKED" blkL

section
variable {g : Heap} {s : Shared} {prog : Program} {w : World} {A : Around} {a : Addr} {mg mb : PySem.Str → Option Value}

theorem way_spec {k : Nat} {x : PySem.Str} {t : Tok} (hg : GSub g s) (N : Names g mg mb) (W : WayTabs g mg) (hf : FnN g a 5) (R : Room A (k + 1)) :
    wpAny (model prog w) A (call (.ref a) [.str x t]) (fun v s' => KeepsX [] s s' ∧ ∃ t, v = .str (wayOf x) t) NoE s := by
  refine callP (own := []) (ex := []) (binds := [("kind", .str x t)]) hg N hf R (fun _ _ _ => by simp) (fun _ hp => nomatch hp) List.nodup_nil (fun _ _ _ => by rfl) (by rfl) ?_
  intro cd L s₁ R₁ S
  show wpAny _ _ (execs (bodyAt 5) _) _ _ _
  refine wpAny_execs_cons (wpAny_If (wpAny_isTrue_Compare1 (ldL S (.head _) (by rfl) ?_)))
  obtain ⟨a1, v1, e1, T1, W1⟩ := W.anew
  obtain ⟨a2, v2, e2, T2, W2⟩ := W.hold
  obtain ⟨a3, v3, e3, T3, W3⟩ := W.lat
  obtain ⟨a4, v4, e4, T4, W4⟩ := W.blk
  refine ldG S N e1 (inStrs (tupG S T1) W1 (wpAny_truthy_bool (iteB ?_ ?_)))
  · intro hb
    walk_at "qs"
    exact ⟨‹St _ _ _ _ _ _›.done, _, by rw [wayOf, if_pos hb]; rfl⟩
  intro hb
  walk_at "qs"
  refine ldG S N e2 (inStrs (tupG S T2) W2 (wpAny_truthy_bool (iteB ?_ ?_)))
  · intro hb2
    walk_at "qs"
    exact ⟨‹St _ _ _ _ _ _›.done, _, by rw [wayOf, if_neg (neT hb), if_pos hb2]; rfl⟩
  intro hb2
  walk_at "qs"
  refine ldG S N e3 (inStrs (tupG S T3) W3 (wpAny_truthy_bool (iteB ?_ ?_)))
  · intro hb3
    walk_at "qs"
    exact ⟨‹St _ _ _ _ _ _›.done, _, by rw [wayOf, if_neg (neT hb), if_neg (neT hb2), if_pos hb3]; rfl⟩
  intro hb3
  walk_at "qs"
  refine ldG S N e4 (inStrs (tupG S T4) W4 (wpAny_truthy_bool (iteB ?_ ?_)))
  · intro hb4
    walk_at "qs"
    exact ⟨‹St _ _ _ _ _ _›.done, _, by rw [wayOf, if_neg (neT hb), if_neg (neT hb2), if_neg (neT hb3), if_pos hb4]; rfl⟩
  intro hb4
  walk_at "qs"
  exact ⟨‹St _ _ _ _ _ _›.done, _, by rw [wayOf, if_neg (neT hb), if_neg (neT hb2), if_neg (neT hb3), if_neg (neT hb4)]; rfl⟩
end

/-! frames, as lists of items -/
abbrev Fm := List Ky
def ItemsO (f : Fm) (vs : List Value) : Prop := Paired (fun k v => k = Ky.opq ∨ isKy k v = true) f vs
def FrAt (h : Heap) (f : Fm) (v : Value) : Prop := ∃ a vs, v = .ref a ∧ IsTup h a vs.toArray ∧ ItemsO f vs
theorem IsTup.tup {h h' : Heap} {a : Addr} {vs : Array Value} (x : IsTup h a vs) (t : TupSub h h') : IsTup h' a vs := let ⟨o, e, c, n, d⟩ := x; ⟨o, t _ _ e ⟨c, _, _, d⟩, c, n, d⟩
theorem FrAt.up {h h' : Heap} {f : Fm} {v : Value} (x : FrAt h f v) (t : TupSub h h') : FrAt h' f v := let ⟨a, vs, e, i, r⟩ := x; ⟨a, vs, e, IsTup.tup i t, r⟩
theorem KeepsX.tup {s s' : Shared} (K : KeepsX [] s s') : TupSub s.heap s'.heap := fun b o e _ => K.keep b o (by simp) e

theorem paired_get {α β : Type} {F : α → β → Prop} : ∀ {l : List α} {r : List β} {i : Nat} {a : α}, Paired F l r → l[i]? = some a → ∃ b, r[i]? = some b ∧ F a b
  | _, _, 0, _, .cons h _, e => by cases e; exact ⟨_, rfl, h⟩
  | _, _, i + 1, _, .cons _ t, e => paired_get (i := i) t (by simpa using e)
theorem paired_get' {α β : Type} {F : α → β → Prop} : ∀ {l : List α} {r : List β} {i : Nat} {b : β}, Paired F l r → r[i]? = some b → ∃ a, l[i]? = some a ∧ F a b
  | _, _, 0, _, .cons h _, e => by cases e; exact ⟨_, rfl, h⟩
  | _, _, i + 1, _, .cons _ t, e => paired_get' (i := i) t (by simpa using e)

section
variable {g : Heap} {s0 : Shared} {ex : List Addr} {own : List (Addr × (Obj → Prop))} {z : Heap} {s s' : Shared} {prog : Program} {w : World} {A : Around} {env : Env}

/-- f[i], i written -/
theorem frItem {value slice : Expr} {f : Fm} {v : Value} {i : Nat} {k : Ky} {u : Tok} {Q : Value → Shared → Prop} (S : St g s0 ex own z s) (hf : FrAt z f v) (hi : f[i]? = some k) (hlt : i < 100)
    (h : ∀ x, (k = Ky.opq ∨ isKy k x = true) → Q x s)
    (hs : ∀ a : Addr, subscripted slice false (.ref a) (.int i u) = operate [.ref a, .int i u] (getItem (.ref a) (.int i u)) := by intro _; with_unfolding_all rfl) :
    wpAny (model prog w) A (subscriptTail value slice v (.int i u)) Q NoE s := by
  obtain ⟨a, vs, rfl, ht, hp⟩ := hf.up S.tu
  obtain ⟨x, hx, hk⟩ := paired_get hp hi
  have hl : i < vs.length := by
    rcases Nat.lt_or_ge i vs.length with h | h
    · exact h
    · rw [List.getElem?_eq_none h] at hx; cases hx
  refine item_tupleT ht (by omega) (by omega) (j := i) ?_ hx (h x hk) (hs a)
  have e1 : ¬ ((i : Int) < 0) := by omega
  simp only [seqIndex?, e1, if_false]
  rw [if_pos (by simp only [Bool.and_eq_true, decide_eq_true_eq]; omega)]
  rfl

theorem StrsAre.len {vs : List Value} {ss : List PySem.Str} (h : StrsAre vs ss) : vs.length = ss.length := by
  induction h with
  | nil => rfl
  | cons _ _ _ ih => simp [ih]
/-- a tuple of written texts -/
def strsOf? : List Expr → Option (List PySem.Str)
  | [] => some []
  | .Constant (.str x) _ _ :: r => (strsOf? r).map (x :: ·)
  | _ => none
theorem spl_strs {pos : Pos} : ∀ (elts : List Expr) (ss : List PySem.Str) (s : Shared) (Q : List Value → Shared → Prop), St g s0 ex own z s → strsOf? elts = some ss →
    (∀ vs s₁, St g s0 ex own z s₁ → StrsAre vs ss → Q vs s₁) → wpAny (model prog w) A (spliced (backTo pos (starEach elts env))) Q NoE s := by
  intro elts
  induction elts with
  | nil => intro ss s Q S e h; cases e; exact wpAny_items_nil (h _ _ S .nil)
  | cons e r ih =>
    intro ss s Q S he h
    cases e with
    | Constant c k p =>
      cases c with
      | str x =>
        simp only [strsOf?, Option.map_eq_some_iff] at he
        obtain ⟨ss', e', rfl⟩ := he
        refine wpAny_items_cons ?_
        refine cStr S fun t s₁ S₁ => ?_
        exact ih ss' s₁ _ S₁ e' fun vs s₂ S₂ hs => h _ _ S₂ (.cons _ _ hs)
      | _ => simp [strsOf?] at he
    | _ => simp [strsOf?] at he
theorem strTup {pos : Pos} {k : Nat} {elts : List Expr} {ss : List PySem.Str} {Q : Value → Shared → Prop} (S : St g s0 ex own z s) (e : strsOf? elts = some ss) (hz : ss.length ≤ 100)
    (h : ∀ a vs s₁, St g s0 ex own z s₁ → IsTup s₁.heap a vs.toArray → StrsAre vs ss → Q (.ref a) s₁) : wpAny (model prog w) A (eval (.Tuple elts k pos) env) Q NoE s := by
  refine Tuple_ (spl_strs elts ss _ _ S e fun vs s₁ S₁ hs => mkTup S₁ ?_ fun a s₂ S₂ _ ht => h a vs s₂ S₂ ht hs)
  rw [StrsAre.len hs, sizeLine_eq]; omega
end

def pairL : List PySem.Str := ["max_stream_data", "stream_data_blocked", "stop_sending", "reset_stream"]
def pairL2 : List PySem.Str := ["max_streams", "streams_blocked"]
def pairL3 : List PySem.Str := ["new_connection_id", "retire_connection_id"]
def pairs (x : PySem.Str) : Bool := pairL.contains x || pairL2.contains x || pairL3.contains x || x == "new_token"
/-- what a frame is about -/
def subjOf : Fm → Fm
  | .str x :: k :: _ => [.str x, if pairs x then k else .none]
  | k :: _ => [k, .none]
  | [] => []

local macro_rules | `(tactic| walk_at "q") => `(tactic| ((with_reducible refine' strTup ?S ?e ?z ?_); (case S => assumption); (case e => rfl); (case z => decide); intro _ _ _ _ _ _))
local macro_rules | `(tactic| walk_at "q") => `(tactic| with_reducible refine Subscript_ ?_)
local macro_rules | `(tactic| walk_at "q") => `(tactic| ((with_reducible refine wpAny_Assign_Name ?_ ?hs); (case hs => rfl)))
theorem isKyS (x : PySem.Str) (t : Tok) : isKy (.str x) (.str x t) = true := by simp [isKy]
theorem itemStr {x : PySem.Str} {v : Value} (h : Ky.str x = Ky.opq ∨ isKy (.str x) v = true) : ∃ t, v = .str x t := by
  rcases h with h | h
  · cases h
  · rcases ky_shape h with ⟨e, _⟩ | ⟨_, e, _⟩ | ⟨_, _, e, _⟩ | ⟨y, t, e, r⟩ | ⟨_, _, e, _⟩ <;> first | cases e | skip
    exact ⟨t, r⟩
section
variable {g : Heap} {s : Shared} {prog : Program} {w : World} {A : Around} {a : Addr} {mg mb : PySem.Str → Option Value}
theorem subj_spec {k : Nat} {x : PySem.Str} {f r : Fm} {v : Value} (hg : GSub g s) (N : Names g mg mb) (hf : FnN g a 6) (R : Room A (k + 1)) (hv : FrAt s.heap f v) (hr : f = .str x :: r) (hp : pairs x = true → r ≠ []) :
    wpAny (model prog w) A (call (.ref a) [v]) (fun v s' => KeepsX [] s s' ∧ FrAt s'.heap (subjOf f) v) NoE s := by
  refine callP (own := []) (ex := []) (binds := [("frame", v)]) hg N hf R (fun _ _ _ => by simp) (fun _ hp => nomatch hp) List.nodup_nil (fun _ _ _ => by rfl) (by rfl) ?_
  intro cd L s₁ R₁ S
  show wpAny _ _ (execs (bodyAt 6) _) _ _ _
  refine wpAny_execs_cons (wpAny_Assign_Name ?_)
  walk_at "qs"
  subst hr
  refine frItem ‹_› hv (i := 0) (k := .str x) rfl (by decide) ?_
  intro x0 hx0
  obtain ⟨tx, rfl⟩ := itemStr hx0
  have pairEnd : ∀ (s' : Shared) (own) (k : Ky) (x1 : Value) (a' : Addr), St g s [] own s.heap s' → (k = Ky.opq ∨ isKy k x1 = true) → IsTup s'.heap a' [Value.str x tx, x1].toArray → KeepsX [] s s' ∧ FrAt s'.heap [.str x, k] (.ref a') :=
    fun s' own k x1 a' S' hk hT => ⟨S'.done, a', _, rfl, hT, .cons hx0 (.cons hk .nil)⟩
  walk_at "qs"
  refine iteB ?_ ?_
  · intro hb
    have hpx : pairs x = true := by unfold pairs; rw [show pairL.contains x = true from hb]; rfl
    obtain ⟨k1, r', rfl⟩ : ∃ k1 r', r = k1 :: r' := by cases r with | nil => exact absurd rfl (hp hpx) | cons a b => exact ⟨a, b, rfl⟩
    walk_at "qs"
    refine frItem ‹_› hv (i := 1) (k := k1) rfl (by decide) ?_
    intro x1 hx1
    walk_at "qs"
    show KeepsX _ _ _ ∧ FrAt _ [.str x, if pairs x then k1 else .none] _
    rw [if_pos hpx]
    exact pairEnd _ _ _ _ _ ‹_› hx1 ‹_›
  intro hb
  walk_at "qs"
  refine iteB ?_ ?_
  · intro hb
    have hpx : pairs x = true := by unfold pairs; rw [show pairL2.contains x = true from hb]; simp
    obtain ⟨k1, r', rfl⟩ : ∃ k1 r', r = k1 :: r' := by cases r with | nil => exact absurd rfl (hp hpx) | cons a b => exact ⟨a, b, rfl⟩
    walk_at "qs"
    refine frItem ‹_› hv (i := 1) (k := k1) rfl (by decide) ?_
    intro x1 hx1
    walk_at "qs"
    show KeepsX _ _ _ ∧ FrAt _ [.str x, if pairs x then k1 else .none] _
    rw [if_pos hpx]
    exact pairEnd _ _ _ _ _ ‹_› hx1 ‹_›
  intro hb2
  walk_at "qs"
  refine iteB ?_ ?_
  · intro hb
    have hpx : pairs x = true := by unfold pairs; rw [show pairL3.contains x = true from hb]; simp
    obtain ⟨k1, r', rfl⟩ : ∃ k1 r', r = k1 :: r' := by cases r with | nil => exact absurd rfl (hp hpx) | cons a b => exact ⟨a, b, rfl⟩
    walk_at "qs"
    refine frItem ‹_› hv (i := 1) (k := k1) rfl (by decide) ?_
    intro x1 hx1
    walk_at "qs"
    show KeepsX _ _ _ ∧ FrAt _ [.str x, if pairs x then k1 else .none] _
    rw [if_pos hpx]
    exact pairEnd _ _ _ _ _ ‹_› hx1 ‹_›
  intro hb3
  walk_at "qs"
  refine iteB ?_ ?_
  · intro hb
    have hpx : pairs x = true := by unfold pairs; rw [show (x == ("new_token" : PySem.Str)) = true from hb]; simp
    obtain ⟨k1, r', rfl⟩ : ∃ k1 r', r = k1 :: r' := by cases r with | nil => exact absurd rfl (hp hpx) | cons a b => exact ⟨a, b, rfl⟩
    walk_at "qs"
    refine frItem ‹_› hv (i := 1) (k := k1) rfl (by decide) ?_
    intro x1 hx1
    walk_at "qs"
    show KeepsX _ _ _ ∧ FrAt _ [.str x, if pairs x then k1 else .none] _
    rw [if_pos hpx]
    exact pairEnd _ _ _ _ _ ‹_› hx1 ‹_›
  intro hb4
  walk_at "qs"
  have hpx : pairs x = false := by
    unfold pairs
    rw [show pairL.contains x = false from hb, show pairL2.contains x = false from hb2, show pairL3.contains x = false from hb3, show (x == ("new_token" : PySem.Str)) = false from hb4]; rfl
  have e : subjOf (.str x :: r) = [.str x, .none] := by cases r with | nil => rfl | cons a b => simp only [subjOf, hpx, Bool.false_eq_true, if_false]
  rw [e]
  exact pairEnd _ _ _ _ _ ‹_› (.inr rfl) ‹_›
end

/-! the law's own word of what a frame is about -/
def lonL : List PySem.Str := ["max_data", "data_blocked", "handshake_done"]
def abtOf : Fm → Fm
  | .str x :: k :: _ => [.str x, if lonL.contains x then .none else k]
  | k :: _ => [k, .none]
  | [] => []

section
variable {g : Heap} {s : Shared} {prog : Program} {w : World} {A : Around} {a : Addr} {mg mb : PySem.Str → Option Value}
theorem abt_spec {k : Nat} {x : PySem.Str} {f r : Fm} {v : Value} (hg : GSub g s) (N : Names g mg mb) (hf : FnN g a 13) (R : Room A (k + 1)) (hv : FrAt s.heap f v) (hr : f = .str x :: r) (hp : lonL.contains x = false → r ≠ []) :
    wpAny (model prog w) A (call (.ref a) [v]) (fun v s' => KeepsX [] s s' ∧ FrAt s'.heap (abtOf f) v) NoE s := by
  refine callP (own := []) (ex := []) (binds := [("frame", v)]) hg N hf R (fun _ _ _ => by simp) (fun _ hp => nomatch hp) List.nodup_nil (fun _ _ _ => by rfl) (by rfl) ?_
  intro cd L s₁ R₁ S
  show wpAny _ _ (execs (bodyAt 13) _) _ _ _
  subst hr
  have pairEnd : ∀ (s' : Shared) (own) (k : Ky) (x0 x1 : Value) (a' : Addr), St g s [] own s.heap s' → isKy (.str x) x0 = true → (k = Ky.opq ∨ isKy k x1 = true) → IsTup s'.heap a' [x0, x1].toArray → KeepsX [] s s' ∧ FrAt s'.heap [.str x, k] (.ref a') :=
    fun s' own k x0 x1 a' S' h0 hk hT => ⟨S'.done, a', _, rfl, hT, .cons (.inr h0) (.cons hk .nil)⟩
  refine wpAny_execs_cons (wpAny_If ?_)
  walk_at "qs"
  refine frItem ‹_› hv (i := 0) (k := .str x) rfl (by decide) ?_
  intro x0 hx0
  obtain ⟨tx, rfl⟩ := itemStr hx0
  walk_at "qs"
  refine iteB ?_ ?_
  · intro hb
    walk_at "qs"
    refine frItem ‹_› hv (i := 0) (k := .str x) rfl (by decide) ?_
    intro x1 hx1
    obtain ⟨tx, rfl⟩ := itemStr hx1
    walk_at "qs"
    have e : abtOf (.str x :: r) = [.str x, .none] := by cases r with | nil => rfl | cons a b => simp only [abtOf]; rw [if_pos (show lonL.contains x = true from hb)]
    show KeepsX _ _ _ ∧ FrAt _ (abtOf (.str x :: r)) _
    rw [e]
    exact pairEnd _ _ _ _ _ _ ‹_› (isKyS _ _) (.inr rfl) ‹_›
  intro hb
  obtain ⟨k1, r', rfl⟩ : ∃ k1 r', r = k1 :: r' := by cases r with | nil => exact absurd rfl (hp hb) | cons a b => exact ⟨a, b, rfl⟩
  walk_at "qs"
  refine frItem ‹_› hv (i := 0) (k := .str x) rfl (by decide) ?_
  intro x1 hx1
  obtain ⟨tx, rfl⟩ := itemStr hx1
  walk_at "qs"
  refine frItem ‹_› hv (i := 1) (k := k1) rfl (by decide) ?_
  intro x2 hx2
  walk_at "qs"
  have e : abtOf (.str x :: k1 :: r') = [.str x, k1] := by simp only [abtOf]; rw [if_neg (neT (show lonL.contains x = false from hb))]
  show KeepsX _ _ _ ∧ FrAt _ (abtOf (.str x :: k1 :: r')) _
  rw [e]
  exact pairEnd _ _ _ _ _ _ ‹_› (isKyS _ _) hx2 ‹_›
end

/-! ints, lengths, calls of built-ins -/
section
variable {g : Heap} {s0 : Shared} {ex : List Addr} {own : List (Addr × (Obj → Prop))} {z : Heap} {s s' : Shared} {prog : Program} {w : World} {A : Around} {env : Env} {a b : Int} {t u : Tok} {Q : Value → Shared → Prop} {mg mb : PySem.Str → Option Value} {x : PySem.Str} {p pos : Pos}

theorem addI (S : St g s0 ex own z s) (h : ∀ t s₁, St g s0 ex own z s₁ → Q (.int (a + b) t) s₁) : wpAny (model prog w) A (binaryOp .Add (.int a t) (.int b u)) Q NoE s := PyProof.Rows.add_int (h _ _ (S.toks _))
theorem mulI (S : St g s0 ex own z s) (hm : IntMulOk a b) (h : ∀ t s₁, St g s0 ex own z s₁ → Q (.int (a * b) t) s₁) : wpAny (model prog w) A (binaryOp .Mult (.int a t) (.int b u)) Q NoE s := PyProof.Rows.mul_int (h _ _ (S.toks _)) hm
theorem modI (S : St g s0 ex own z s) (hb : b ≠ 0) (h : ∀ t s₁, St g s0 ex own z s₁ → Q (.int (a.fmod b) t) s₁) : wpAny (model prog w) A (binaryOp .Mod (.int a t) (.int b u)) Q NoE s := mod_int' hb (h _ _ (S.toks _))
theorem fdivI (S : St g s0 ex own z s) (hb : b ≠ 0) (hs : Builtin.divisionGoesByPylong a b = false) (h : ∀ t s₁, St g s0 ex own z s₁ → Q (.int (a.fdiv b) t) s₁) : wpAny (model prog w) A (binaryOp .FloorDiv (.int a t) (.int b u)) Q NoE s := floordiv_int hb (h _ _ (S.toks _)) (.inl hs)
theorem negI (S : St g s0 ex own z s) (h : ∀ t s₁, St g s0 ex own z s₁ → Q (.int (-a) t) s₁) : wpAny (model prog w) A (unaryOp .USub (.int a t)) Q NoE s := neg_int (h _ _ (S.toks _))
theorem absI (S : St g s0 ex own z s) (h : ∀ t s₁, St g s0 ex own z s₁ → Q (.int (if a < 0 then -a else a) t) s₁) : wpAny (model prog w) A (call (.builtin "abs") [.int a t]) Q NoE s := call_abs_int fun _ _ => h _ _ (S.toks _)
theorem lenLs {l : Addr} {vs : List Value} (S : St g s0 ex own z s) (hl : s.heap.IsList l vs.toArray) (hz : vs.length ≤ 16384) (h : ∀ t s₁, St g s0 ex own z s₁ → Q (.int vs.length t) s₁) : wpAny (model prog w) A (call (.builtin "len") [.ref l]) Q NoE s :=
  kun_lenL hl (by simp) (by omega) (h _ _ (S.toks _))
theorem lenTp {l : Addr} {vs : List Value} (S : St g s0 ex own z s) (hl : IsTup s.heap l vs.toArray) (hz : vs.length ≤ 16384) (h : ∀ t s₁, St g s0 ex own z s₁ → Q (.int vs.length t) s₁) : wpAny (model prog w) A (call (.builtin "len") [.ref l]) Q NoE s :=
  kun_lenT hl (by simp) (by omega) (h _ _ (S.toks _))

theorem callB1 {id : String} {e : Expr} (S : St g s0 ex own z s) (N : Names g mg mb) (hn : mg x = none) (hv : mb x = some (.builtin id)) (h : wpAny (model prog w) A (eval e env) (fun v s₁ => wpAny (model prog w) A (call (.builtin id) [v]) Q NoE s₁) NoE s)
    (hk : env.scope.kind = .function := by rfl) (hl : env.kindOf x = some .globalImplicit := by rfl) (hg : env.globals = mainGlobals := by rfl) (hb : env.builtins = builtinsNs := by rfl) (hd : (x == ("__debug__" : PySem.Str)) = false := by rfl) (hs : starEach [e] env = [(false, eval e env)] := by rfl) :
    wpAny (model prog w) A (eval (.Call (.Name x p) [e] [] pos) env) Q NoE s :=
  PyProof.Rows.Call_Name1 (ldB S N hn hv (PySem.callWith_builtin1 h) hk hl hg hb hd) hs
theorem callT1 {T : String} {e : Expr} (S : St g s0 ex own z s) (N : Names g mg mb) (hn : mg x = none) (hv : mb x = some (.type T)) (h : wpAny (model prog w) A (eval e env) (fun v s₁ => wpAny (model prog w) A (call (.type T) [v]) Q NoE s₁) NoE s)
    (hk : env.scope.kind = .function := by rfl) (hl : env.kindOf x = some .globalImplicit := by rfl) (hg : env.globals = mainGlobals := by rfl) (hb : env.builtins = builtinsNs := by rfl) (hd : (x == ("__debug__" : PySem.Str)) = false := by rfl) (hs : starEach [e] env = [(false, eval e env)] := by rfl) :
    wpAny (model prog w) A (eval (.Call (.Name x p) [e] [] pos) env) Q NoE s :=
  PyProof.Rows.Call_Name1 (ldB S N hn hv (PySem.callWith_type1 h) hk hl hg hb hd) hs

/-- a call of a def of the text's -/
theorem callG {a : Addr} {n : Nat} {e : Expr} {rest : List Expr} (S : St g s0 ex own z s) (N : Names g mg mb) (hv : mg x = some (.ref a)) (hf : FnN g a n)
    (h : wpAny (model prog w) A (spliced (backTo pos (starEach (e :: rest) env))) (fun vs s₂ => (∃ own' z', St g s0 ex own' z' s₂) ∧ wpAny (model prog w) A (call (.ref a) vs) Q NoE s₂) NoE s)
    (hk : env.scope.kind = .function := by rfl) (hl : env.kindOf x = some .globalImplicit := by rfl) (hg : env.globals = mainGlobals := by rfl) (hd : (x == ("__debug__" : PySem.Str)) = false := by rfl) (hs : starEach (e :: rest) env = (false, eval e env) :: starEach rest env := by rfl) :
    wpAny (model prog w) A (eval (.Call (.Name x p) (e :: rest) [] pos) env) Q NoE s := by
  refine wpAny_Call_ofName (ldG S N hv ?_ hk hl hg hd)
  obtain ⟨o, pm, cd, doc, ho, hdat, _⟩ := hf
  refine Calls.callWith_function (o := o) (fd := docDef (nameAt n) (argsAt n) (bodyAt n) (scopeAt n) pm cd doc) ?_
  rw [hs] at h ⊢
  refine Calls.evalArgs_plain (wpAny_mono h (fun vs s₂ h₂ => ?_) fun _ _ e => e)
  obtain ⟨⟨own', z', S'⟩, hc⟩ := h₂
  exact ⟨⟨S'.gkeep _ _ ho, hdat⟩, hc⟩
end

section
variable {g : Heap} {s0 : Shared} {ex : List Addr} {own : List (Addr × (Obj → Prop))} {z : Heap} {s s' : Shared} {prog : Program} {w : World} {A : Around} {env : Env} {Q : Value → Shared → Prop}
theorem lsItem {value slice : Expr} {l : Addr} {vs : List Value} {k : Int} {u : Tok} {v : Value} (hl : s.heap.IsList l vs.toArray) (h0 : 0 ≤ k) (hhi : k < 2 ^ 63) (hx : vs[k.toNat]? = some v) (h : Q v s)
    (hs : subscripted slice false (.ref l) (.int k u) = operate [.ref l, .int k u] (getItem (.ref l) (.int k u)) := by with_unfolding_all rfl) :
    wpAny (model prog w) A (subscriptTail value slice (.ref l) (.int k u)) Q NoE s :=
  tail_any hl.typeIs slot_list_getitem.lookup (wpAny_getItem_list hl h0 hhi (by simpa using hx) h) hs
end
section
variable {g : Heap} {s0 : Shared} {ex : List Addr} {own : List (Addr × (Obj → Prop))} {z : Heap} {s s' : Shared} {prog : Program} {w : World} {A : Around} {env : Env}
theorem neNil {l b : Addr} {vs : List Value} {Q : Value → Shared → Prop} (hu : A.units < cLine) (h1 : s.heap.IsList l vs.toArray) (h2 : s.heap.IsList b ([] : List Value).toArray) (h : Q (.bool (vs.length != 0)) s) :
    wpAny (model prog w) A (compareOp .NotEq (.ref l) (.ref b)) Q NoE s := by
  cases vs with
  | nil => exact SeqAt.RcNeAt.lists (e := fun _ => true) h1 h2 rfl hu (fun j hj => absurd hj (Nat.not_lt_zero _)) prog w NoE Q h
  | cons v vs => exact SeqAt.RcNeAt.lists_lengths h1 h2 rfl hu prog w NoE Q h
/-- a store into a list that stands behind the locals -/
theorem setLs {p0 : Addr × (Obj → Prop)} {post : List (Addr × (Obj → Prop))} {l : Addr} {vs vs' : List Value} {k : Int} {u : Tok} {v : Value} {Q : Unit → Shared → Prop} (S : St g s0 ex (p0 :: (l, listP vs) :: post) z s) (h0 : 0 ≤ k) (hk : k < vs.length) (hz : vs.length ≤ 16384)
    (e : vs.toArray.setIfInBounds k.toNat v = vs'.toArray) (h : ∀ s₁, St g s0 ex (p0 :: (l, listP vs') :: post) z s₁ → Q () s₁) : wpAny (model prog w) A (setItem (.ref l) (.int k u) v) Q NoE s := by
  refine wpAny_setItem_list (S.list (.tail _ (.head _))) h0 (by omega) (by simpa using hk) fun h' hl hs => ?_
  obtain ⟨o, ho, r⟩ := hl
  rw [e] at r
  exact h _ (S.change (pre := [p0]) (tk := s.toks) (fun b o hb x => hs.extBut b o hb x) ho r (listP_tp r))
theorem ints_get {vs : List Value} {ns : List Int} (h : IntsAre vs ns) {k : Nat} (hk : k < vs.length) : ∃ n t, vs[k]? = some (.int n t) := by
  induction h generalizing k with
  | nil => exact absurd hk (Nat.not_lt_zero _)
  | cons n t _ ih =>
    cases k with
    | zero => exact ⟨n, t, rfl⟩
    | succ k => exact ih (Nat.lt_of_succ_lt_succ hk)
end
local macro_rules | `(tactic| walk_at "q") => `(tactic| with_reducible refine wpAny_BinOp ?_)
local macro_rules | `(tactic| walk_at "q") => `(tactic| ((with_reducible refine wpAny_Assign_Subscript ?_ ?hs); (case hs => rfl)))
local macro_rules | `(tactic| walk_at "q") => `(tactic| with_reducible refine UnaryOp_ ?_)
local macro_rules | `(tactic| walk_at "q") => `(tactic| ((with_reducible refine' addI ?S ?_); (case S => assumption); intro _ _ _))
local macro_rules | `(tactic| walk_at "q") => `(tactic| ((with_reducible refine' negI ?S ?_); (case S => assumption); intro _ _ _))
local macro_rules | `(tactic| walk_at "q") => `(tactic| ((with_reducible refine' modI ?S ?n ?_); (case S => assumption); (case n => decide); intro _ _ _))
local macro_rules | `(tactic| walk_at "q") => `(tactic| ((with_reducible refine' absI ?S ?_); (case S => assumption); intro _ _ _))
local macro_rules | `(tactic| walk_at "q") => `(tactic| with_reducible refine PyProof.Rows.eq_int ?_)
local macro_rules | `(tactic| walk_at "q") => `(tactic| with_reducible refine PyProof.Rows.lt_int ?_)
local macro_rules | `(tactic| walk_at "q") => `(tactic| with_reducible refine PyProof.Rows.gt_int ?_)

/-! the draws -/
def poolP (scr : Addr) : Obj → Prop := fun o => ∃ p i t u, listP [.int p t, .ref scr, .int i u] o ∧ 0 ≤ p ∧ p < 2147483647 ∧ 0 ≤ i
def ScrAt (h : Heap) (scr : Addr) : Prop := ∃ vs ns, h.IsList scr vs.toArray ∧ IntsAre vs ns ∧ ns.length ≤ 16384
theorem poolP_tp {scr : Addr} {o : Obj} (h : poolP scr o) : ¬ isTp o := let ⟨_, _, _, _, q, _⟩ := h; listP_tp q

section
variable {g : Heap} {s : Shared} {prog : Program} {w : World} {A : Around} {a P scr : Addr} {mg mb : PySem.Str → Option Value}
theorem draw_spec {k : Nat} {many : Int} {t : Tok} (hg : GSub g s) (N : Names g mg mb) (hf : FnN g a 11) (R : Room A (k + 1)) (hP : ∃ o, s.heap.get? P = some o ∧ poolP scr o) (hsc : ScrAt s.heap scr) (hne : scr ≠ P)
    (hgP : ∀ b o, g.get? b = some o → b ≠ P) (hm : 0 < many) (B : Blt mg mb) :
    wpAny (model prog w) A (call (.ref a) [.ref P, .int many t]) (fun v s' => KeepsX [P] s s' ∧ (∃ o, s'.heap.get? P = some o ∧ poolP scr o) ∧ ∃ r t, v = .int r t ∧ 0 ≤ r ∧ r < many) NoE s := by
  obtain ⟨oP, eP, hpo⟩ := hP
  obtain ⟨p, i, t0, t2, hpl, hp0, hp1, hi0⟩ := hpo
  obtain ⟨vs, ns, hvs, hins, hlen⟩ := hsc
  refine callP (own := [(P, listP [.int p t0, .ref scr, .int i t2])]) (ex := [P]) (binds := [("pool", .ref P), ("many", .int many t)]) hg N hf R (fun b o e => by simpa using hgP b o e)
    (fun q hq => by rw [List.mem_singleton.mp hq]; exact ⟨⟨oP, eP, hpl, listP_tp hpl⟩, by simp⟩) (by simp) (fun _ _ _ => by rfl) (by rfl) ?_
  intro cd L s₁ R₁ S
  show wpAny _ _ (execs (bodyAt 11) _) _ _ _
  have scrAt : ∀ {own z s'}, St g s [P] own z s' → s'.heap.IsList scr vs.toArray := fun S' => let ⟨o, e, r⟩ := hvs; ⟨o, S'.keep _ _ (by simpa using hne) e, r⟩
  refine wpAny_execs_cons (wpAny_Assign_Name ?_)
  walk_at "qs"
  refine lsItem (St.list ‹_› (by k_mem)) (by decide) (by decide) rfl ?_
  walk_at "qs"
  refine neNil R₁.u (scrAt ‹_›) (St.plainL ‹_› (by k_mem)) ?_
  have Sd := St.drop2 ‹St g s [P] _ _ _›
  walk_at "qs"
  have tail : ∀ (c : Int) (tc : Tok) (s₂ : Shared), St g s [P] [(L, nsP fun y => if y = ("cell" : PySem.Str) then some (.int c tc) else if y = ("script" : PySem.Str) then some (.ref scr) else List.lookup y [(("pool" : PySem.Str), Value.ref P), ("many", .int many t)].reverse), (P, listP [.int p t0, .ref scr, .int i t2])] s.heap s₂ →
      wpAny (model prog w) (A.deeper (envOf (nameAt 11) (scopeAt 11) L a cd)) (execs (List.drop 2 (bodyAt 11)) (envOf (nameAt 11) (scopeAt 11) L a cd))
        (fun fl s' => KeepsX [P] s s' ∧ (∃ o, s'.heap.get? P = some o ∧ poolP scr o) ∧ ∃ r t, retv fl = .int r t ∧ 0 ≤ r ∧ r < many) NoE s₂ := by
    intro c tc s₂ S₂
    refine wpAny_execs_cons (wpAny_Assign_Subscript ?_)
    walk_at "qs"
    refine lsItem (St.list ‹_› (by k_mem)) (by decide) (by decide) rfl ?_
    walk_at "qs"
    refine setLs (vs' := [.int p t0, .ref scr, .int (i + 1) _]) ‹_› (by decide) (by simp) (by simp) rfl ?_
    intro s₃ S₃
    walk_at "qs"
    refine lsItem (St.list ‹_› (by k_mem)) (by decide) (by decide) rfl ?_
    walk_at "qs"
    refine mulI ‹_› (IntMulOk.of_right (by decide)) ?_
    intro _ _ _
    walk_at "qs"
    refine setLs (vs' := [.int _ _, .ref scr, .int (i + 1) _]) ‹_› (by decide) (by simp) (by simp) rfl ?_
    intro s₄ S₄
    walk_at "qs"
    refine lsItem (St.list ‹_› (by k_mem)) (by decide) (by decide) rfl ?_
    walk_at "qs"
    refine fdivI ‹_› (by decide) (PyProof.noPylong_of_log2 (by decide +kernel)) ?_
    intro _ _ _
    walk_at "qs"
    refine modI ‹_› (by omega) ?_
    intro _ _ _
    have b1 : (0 : Int) < 2147483647 := by decide
    have Se := ‹St g s [P] _ _ _›
    obtain ⟨o, e, q, _⟩ := St.at Se (.tail _ (.head _))
    exact ⟨Se.done, ⟨o, e, _, _, _, _, q, Int.fmod_nonneg_of_pos _ b1, Int.fmod_lt_of_pos _ b1, by omega⟩, _, _, rfl, Int.fmod_nonneg_of_pos _ hm, Int.fmod_lt_of_pos _ hm⟩
  refine iteB ?_ ?_
  · intro hb
    have hv0 : vs.length ≠ 0 := by simpa using hb
    walk_at "qs"
    refine callB1 ‹_› N B.nabs B.babs ?_
    walk_at "qs"
    refine lsItem (St.list ‹_› (by k_mem)) (by decide) (by decide) rfl ?_
    walk_at "qs"
    refine callB1 ‹_› N B.nlen B.blen ?_
    walk_at "qs"
    refine lenLs ‹_› (scrAt ‹_›) (by rw [hins.length]; exact hlen) ?_
    intro _ _ _
    refine modI ‹_› (by omega) ?_
    intro _ _ _
    have h1 := Int.fmod_nonneg_of_pos i (show (0 : Int) < vs.length by omega)
    have h2 := Int.fmod_lt_of_pos i (show (0 : Int) < vs.length by omega)
    obtain ⟨n, tn, hn⟩ := ints_get hins (k := (i.fmod vs.length).toNat) (by omega)
    refine lsItem (scrAt ‹_›) h1 (by have := hins.length; omega) hn ?_
    iterate 2 walk_at "q"
    refine' tail _ _ _ ?S
    case S => assumption
  · intro hb
    iterate 2 walk_at "q"
    refine' tail _ _ _ ?S
    case S => assumption

theorem St.gne {g : Heap} {s0 : Shared} {ex : List Addr} {own : List (Addr × (Obj → Prop))} {z : Heap} {s : Shared} (S : St g s0 ex own z s) {P : Addr} {q : Obj → Prop} (hm : (P, q) ∈ own) : ∀ b o, g.get? b = some o → b ≠ P := by
  rintro b o e rfl
  obtain ⟨x, y⟩ := S.sub _ _ e
  rcases (S.hold _ hm).2 with h | h
  · exact y h
  · rw [x] at h; cases h

theorem drawS {s0 : Shared} {ex : List Addr} {own : List (Addr × (Obj → Prop))} {z : Heap} {k : Nat} {many : Int} {t : Tok} {Q : Value → Shared → Prop} (S : St g s0 ex own z s) (hmem : (P, poolP scr) ∈ own) (N : Names g mg mb) (hf : FnN g a 11) (R : Room A (k + 1))
    (hsc : ScrAt s.heap scr) (hne : scr ≠ P) (hm : 0 < many) (B : Blt mg mb)
    (h : ∀ r t s₂, St g s0 ex own z s₂ → (∀ b o, b ≠ P → s.heap.get? b = some o → s₂.heap.get? b = some o) → 0 ≤ r → r < many → Q (.int r t) s₂) :
    wpAny (model prog w) A (call (.ref a) [.ref P, .int many t]) Q NoE s := by
  obtain ⟨o, e, q, _⟩ := S.at hmem
  refine wpAny_mono (draw_spec S.gkeep N hf R ⟨o, e, q⟩ hsc hne (S.gne hmem) hm B) (fun v s' hv => ?_) fun _ _ e => e
  obtain ⟨K, ⟨o', e', q'⟩, r, t, rfl, h0, h1⟩ := hv
  obtain ⟨hh, tk, rfl⟩ := K.alike
  have hk : ∀ b o, b ≠ P → s.heap.get? b = some o → hh.get? b = some o := fun b o hb e => K.keep b o (by simpa using hb) e
  exact h _ _ _ (S.same hmem (tk := tk) hk e' q' (poolP_tp q')) hk h0 h1
end

/-! lists and tuples glued; bytes of one int; the unpacking of a tuple -/
section
variable {g : Heap} {s0 : Shared} {ex : List Addr} {own : List (Addr × (Obj → Prop))} {z : Heap} {s s' : Shared} {prog : Program} {w : World} {A : Around} {env : Env} {p0 : Addr × (Obj → Prop)}

theorem addLs {l b : Addr} {vs ws : List Value} {Q : Value → Shared → Prop} (S : St g s0 ex (p0 :: own) z s) (hl : s.heap.IsList l vs.toArray) (hb : s.heap.IsList b ws.toArray) (hz : vs.length + ws.length ≤ sizeLine)
    (h : ∀ a s₁, St g s0 ex (p0 :: (a, plainP (vs ++ ws)) :: own) z s₁ → Q (.ref a) s₁) : wpAny (model prog w) A (binaryOp .Add (.ref l) (.ref b)) Q NoE s := by
  obtain ⟨⟨cls, dd, data, sl⟩, ho, hc, n, hd⟩ := id hl
  obtain ⟨⟨cls2, dd2, data2, sl2⟩, ho2, hc2, n2, hd2⟩ := id hb
  simp only at hc hd hc2 hd2
  subst hc hd hc2 hd2
  have e : vs.toArray ++ ws.toArray = (vs ++ ws).toArray := by simp
  refine concat_meets ⟨_, ho, rfl⟩ ⟨_, ho2, rfl⟩ noFill_list_add seq_list_add PySem.F.slot_list_add PySem.F.entry_list_add (PySem.F.args_list_add_2 _ _) (list_addW l b vs.toArray ws.toArray n n2 dd dd2 sl sl2 (by simpa using hz)) ⟨ho, ho2, ?_⟩
  rw [e]
  exact h _ _ (S.push _ ⟨0, rfl⟩ (plainP_tp ⟨0, rfl⟩)).swap

theorem addTp {t b : Addr} {vs ws : List Value} {Q : Value → Shared → Prop} (S : St g s0 ex own z s) (ht : IsTup s.heap t vs.toArray) (hb : IsTup s.heap b ws.toArray) (hv : vs ≠ []) (hw : ws ≠ []) (hz : vs.length + ws.length ≤ sizeLine)
    (h : ∀ a s₁, St g s0 ex own z s₁ → KeepsX [] s s₁ → IsTup s₁.heap a (vs ++ ws).toArray → Q (.ref a) s₁) : wpAny (model prog w) A (binaryOp .Add (.ref t) (.ref b)) Q NoE s := by
  obtain ⟨⟨cls, dd, data, sl⟩, ho, hc, n, hd⟩ := id ht
  obtain ⟨⟨cls2, dd2, data2, sl2⟩, ho2, hc2, n2, hd2⟩ := id hb
  simp only at hc hd hc2 hd2
  subst hc hd hc2 hd2
  have e : vs.toArray ++ ws.toArray = (vs ++ ws).toArray := by simp
  refine concat_meets ⟨_, ho, rfl⟩ ⟨_, ho2, rfl⟩ noFill_tuple_add seq_tuple_add PySem.F.slot_tuple_add PySem.F.entry_tuple_add (PySem.F.args_tuple_add_2 _ _)
    (tuple_addW2 t b vs.toArray ws.toArray n n2 dd dd2 sl sl2 (by simpa using hv) (by simpa using hw) (by rw [List.size_toArray, List.size_toArray]; exact hz)) ⟨ho, ho2, ?_⟩
  rw [e]
  have hk : ∀ b o, s.heap.get? b = some o → (s.heap.push { cls := .type "tuple", data := .seq (vs ++ ws).toArray }).get? b = some o := fun b o e => Heap.get?_push_of_some _ e
  exact h _ _ (S.grow (tk := s.toks) hk) ⟨⟨_, s.toks, rfl⟩, fun b o _ e => hk b o e⟩ ⟨_, Heap.get?_push_size _ rfl, rfl, 0, rfl⟩

theorem bytes1 {l : Addr} {n : Int} {t : Tok} {Q : Value → Shared → Prop} (S : St g s0 ex own z s) (hl : s.heap.IsList l [Value.int n t].toArray) (h0 : 0 ≤ n) (h1 : n < 256) (hh : A.handled = none)
    (h : ∀ t s₁, St g s0 ex own z s₁ → Q (.bytes (byteArr [n]) t) s₁) : wpAny (model prog w) A (call (.type "bytes") [.ref l]) Q NoE s :=
  call_bytes_ints hl (.cons _ _ .nil) (fun m hm => by rw [List.mem_singleton.mp hm]; exact ⟨h0, h1⟩) (szle rfl) hh fun h' t k hk => h _ _ (S.grow (tk := k) hk)

theorem ext_size {h h' : Heap} (x : Heap.ExtBut h.objs.size h h') : ∀ b o, h.get? b = some o → h'.get? b = some o := fun b o e => x b o (Nat.ne_of_lt (Heap.lt_size e)) e

theorem unpk {a : Addr} {vs : List Value} {n : Nat} {Q : List Value → Shared → Prop} (S : St g s0 ex own z s) (hT : IsTup s.heap a vs.toArray) (hh : A.handled = none) (hn : n = vs.length)
    (h : ∀ s₁, St g s0 ex own z s₁ → KeepsX [] s s₁ → Q vs s₁) : wpAny (model prog w) A (unpackItems (.ref a) n none) Q NoE s := by
  subst hn
  have := wpAny_unpackItems_tuple (prog := prog) (w := w) (A := A) (E := NoE) (s := s) (t := a) (items := vs.toArray) (Q := Q) hh hT fun h' hx => by
    have S' := S.grow (tk := s.toks) (ext_size hx)
    exact h _ S' ⟨⟨h', s.toks, rfl⟩, fun b o _ e => ext_size hx b o e⟩
  simpa using this
end
local macro_rules | `(tactic| walk_at "q") => `(tactic| ((with_reducible refine' addLs ?S ?l ?b ?z ?_); (case S => assumption); (case l => exact St.plainL (by assumption) (by k_mem)); (case b => exact St.plainL (by assumption) (by k_mem)); (case z => exact szle rfl); intro _ _ _))


/-! displays of frames, read off their text -/
def atomK (ρ : PySem.Str → Option Int) : Expr → Option Ky
  | .Constant .none _ _ => some .none
  | .Constant (.bool b) _ _ => some (.num (if b then 1 else 0))
  | .Constant (.int i) _ _ => some (.num i)
  | .Constant (.str x) _ _ => some (.str x)
  | .Constant (.bytes b) _ _ => some (.bytes b)
  | .Name x _ => (ρ x).map .num
  | .Compare (.Name x _) [.Eq] [.Constant (.int i) _ _] _ => (ρ x).map fun a => .num (if a == i then 1 else 0)
  | .Call (.Name f _) [.List [.Name x _] _] [] _ => if f = "bytes" then (ρ x).bind fun a => some (.bytes [a.toNat.toUInt8]) else none
  | .List [.Tuple [.Constant (.int _) _ _, .Constant (.int _) _ _] _ _] _ => some .opq
  | _ => none
def atomsK (ρ : PySem.Str → Option Int) : List Expr → Option Fm
  | [] => some []
  | e :: r => match atomK ρ e, atomsK ρ r with
    | some k, some f => some (k :: f)
    | _, _ => none
def frameK (ρ : PySem.Str → Option Int) : Expr → Option Fm
  | .Tuple es _ _ => if es.length ≤ 20 then atomsK ρ es else none
  | _ => none
def framesK (ρ : PySem.Str → Option Int) : List Expr → Option (List Fm)
  | [] => some []
  | e :: r => match frameK ρ e, framesK ρ r with
    | some f, some fs => some (f :: fs)
    | _, _ => none

theorem Paired.imp {α β : Type} {F G : α → β → Prop} : ∀ {l : List α} {r : List β}, Paired F l r → (∀ {a b}, F a b → G a b) → Paired G l r
  | _, _, .nil, _ => .nil
  | _, _, .cons h t, f => .cons (f h) (Paired.imp t f)
theorem paired_append {α β : Type} {F : α → β → Prop} : ∀ {l l' : List α} {r r' : List β}, Paired F l r → Paired F l' r' → Paired F (l ++ l') (r ++ r')
  | _, _, _, _, .nil, h => h
  | _, _, _, _, .cons h t, k => .cons h (paired_append t k)
structure Reads1 (env : Env) (L : Addr) (m : PySem.Str → Option Value) (ρ : PySem.Str → Option Int) : Prop where
  loc : env.locals = L
  kind : env.scope.kind = .function
  glob : env.globals = mainGlobals
  blt : env.builtins = builtinsNs
  byt : env.kindOf "bytes" = some .globalImplicit
  val : ∀ x i, ρ x = some i → (0 ≤ i ∧ i < 256) ∧ (∃ t, m x = some (.int i t)) ∧ env.kindOf x = some .local ∧ (x == ("__debug__" : PySem.Str)) = false

section
variable {g : Heap} {s0 : Shared} {ex : List Addr} {own : List (Addr × (Obj → Prop))} {z : Heap} {s s' : Shared} {prog : Program} {w : World} {A : Around} {env : Env} {L : Addr} {m : PySem.Str → Option Value} {ρ : PySem.Str → Option Int} {mg mb : PySem.Str → Option Value}
theorem atom_ok {e : Expr} {k : Ky} {Q : Value → Shared → Prop} (S : St g s0 ex ((L, nsP m) :: own) z s) (N : Names g mg mb) (B : Blt mg mb) (hh : A.handled = none) (H : Reads1 env L m ρ) (he : atomK ρ e = some k)
    (h : ∀ v s₁, St g s0 ex ((L, nsP m) :: own) z s₁ → (k = .opq ∨ isKy k v = true) → Q v s₁) : wpAny (model prog w) A (eval e env) Q NoE s := by
  have ldv : ∀ {x : PySem.Str} {i : Int} {p : Pos} {Q : Value → Shared → Prop} {own' s'}, St g s0 ex ((L, nsP m) :: own') z s' → ρ x = some i → (∀ t, Q (.int i t) s') → wpAny (model prog w) A (eval (.Name x p) env) Q NoE s' := by
    intro x i p Q own' s' S' hx hq
    obtain ⟨_, ⟨t, ht⟩, hk, hd⟩ := H.val x i hx
    exact ldL S' (.head _) ht (hq t) H.loc H.kind hk hd
  unfold atomK at he
  split at he
  · cases he; exact Constant_none (h _ _ S (.inr rfl))
  · cases he; exact Constant_bool (h _ _ S (.inr (by simp [isKy])))
  · cases he; exact cInt S fun t s₁ S₁ => h _ _ S₁ (.inr (by simp [isKy]))
  · cases he; exact cStr S fun t s₁ S₁ => h _ _ S₁ (.inr (by simp [isKy]))
  · cases he; exact fun Γ p hΓ => (wpAny_mkTextBytes (M := model prog w) (A := A) (E := NoE) (h _ _ (S.toks _) (.inr (by simp [isKy])))) Γ p hΓ
  · obtain ⟨i, hi, rfl⟩ := Option.map_eq_some_iff.mp he
    exact ldv S hi fun t => h _ _ S (.inr (by simp [isKy]))
  · obtain ⟨i, hi, rfl⟩ := Option.map_eq_some_iff.mp he
    refine wpAny_Compare1 (ldv S hi fun t => cInt S fun t2 s₁ S₁ => PyProof.Rows.eq_int (h _ _ S₁ (.inr (by simp [isKy]))))
  · split at he
    · rename_i hf
      subst hf
      obtain ⟨i, hi, hr⟩ := Option.bind_eq_some_iff.mp he
      cases hr
      have hr01 := (H.val _ _ hi).1
      refine callT1 S N B.nbytes B.bbytes ?_ H.kind H.byt H.glob H.blt
      refine List_ (wpAny_items_cons (ldv S hi fun t => wpAny_items_nil (mkList S (szle rfl) fun a s₁ S₁ => ?_)))
      refine bytes1 S₁ (S₁.plainL (.tail _ (.head _))) hr01.1 hr01.2 hh fun t s₂ S₂ => h _ _ S₂.drop2 (.inr ?_)
      simp [isKy, byteArr]
    · cases he
  · cases he
    refine List_ (wpAny_items_cons (Tuple_ (wpAny_items_cons (cInt S fun t s₁ S₁ => wpAny_items_cons (cInt S₁ fun t s₂ S₂ => wpAny_items_nil (mkTup S₂ (szle rfl) fun a s₃ S₃ _ _ => wpAny_items_nil (mkList S₃ (szle rfl) fun b s₄ S₄ => h _ _ S₄.drop2 (.inl rfl))))))))
  · cases he

theorem atoms_ok {pos : Pos} (N : Names g mg mb) (B : Blt mg mb) (hh : A.handled = none) (H : Reads1 env L m ρ) : ∀ (es : List Expr) (f : Fm) (s : Shared) (Q : List Value → Shared → Prop), St g s0 ex ((L, nsP m) :: own) z s → atomsK ρ es = some f →
    (∀ vs s₁, St g s0 ex ((L, nsP m) :: own) z s₁ → ItemsO f vs → Q vs s₁) → wpAny (model prog w) A (spliced (backTo pos (starEach es env))) Q NoE s := by
  intro es
  induction es with
  | nil => intro f s Q S he h; cases he; exact wpAny_items_nil (h _ _ S .nil)
  | cons e r ih =>
    intro f s Q S he h
    simp only [atomsK] at he
    split at he
    · rename_i k f' h1 h2
      cases he
      have hst : starEach (e :: r) env = (false, eval e env) :: starEach r env := by cases e <;> first | rfl | (exfalso; revert h1; simp [atomK])
      refine wpAny_items_cons (atom_ok S N B hh H h1 fun v s₁ S₁ hv => ih f' s₁ _ S₁ h2 fun vs s₂ S₂ hvs => h _ _ S₂ (.cons hv hvs)) hst
    · cases he

theorem ItemsO.length {f : Fm} {vs : List Value} (h : ItemsO f vs) : f.length = vs.length := Paired.length h
theorem atomsK_len : ∀ {es : List Expr} {f : Fm}, atomsK ρ es = some f → f.length = es.length
  | [], f, h => by cases h; rfl
  | e :: r, f, h => by
    simp only [atomsK] at h
    split at h
    · rename_i h1 h2; cases h; simp [atomsK_len h2]
    · cases h

theorem frame_ok {e : Expr} {f : Fm} {Q : Value → Shared → Prop} (S : St g s0 ex ((L, nsP m) :: own) z s) (N : Names g mg mb) (B : Blt mg mb) (hh : A.handled = none) (H : Reads1 env L m ρ) (he : frameK ρ e = some f)
    (h : ∀ v s₁, St g s0 ex ((L, nsP m) :: own) s₁.heap s₁ → TupSub z s₁.heap → FrAt s₁.heap f v → Q v s₁) : wpAny (model prog w) A (eval e env) Q NoE s := by
  cases e with
  | Tuple es k pos =>
    simp only [frameK] at he
    split at he
    · rename_i hl
      refine Tuple_ (atoms_ok N B hh H es f s _ S he fun vs s₁ S₁ hvs => mkTup S₁ (by have := hvs.length; have := atomsK_len he; rw [sizeLine_eq]; omega) fun a s₂ S₂ _ hT => h _ _ S₂.up S₂.tu ⟨a, vs, rfl, hT, hvs⟩)
    · cases he
  | _ => cases he

theorem frames_ok {pos : Pos} (N : Names g mg mb) (B : Blt mg mb) (hh : A.handled = none) (H : Reads1 env L m ρ) : ∀ (es : List Expr) (fs : List Fm) (z : Heap) (s : Shared) (Q : List Value → Shared → Prop), St g s0 ex ((L, nsP m) :: own) z s → framesK ρ es = some fs →
    (∀ vs z' s₁, St g s0 ex ((L, nsP m) :: own) z' s₁ → TupSub z z' → Paired (FrAt z') fs vs → Q vs s₁) → wpAny (model prog w) A (spliced (backTo pos (starEach es env))) Q NoE s := by
  intro es
  induction es with
  | nil => intro fs z s Q S he h; cases he; exact wpAny_items_nil (h _ _ _ S (TupSub.refl _) .nil)
  | cons e r ih =>
    intro fs z s Q S he h
    simp only [framesK] at he
    split at he
    · rename_i f fs' h1 h2
      cases he
      have hst : starEach (e :: r) env = (false, eval e env) :: starEach r env := by cases e <;> first | rfl | (exfalso; revert h1; simp [frameK])
      refine wpAny_items_cons (frame_ok S N B hh H h1 fun v s₁ S₁ hz hv => ih fs' _ s₁ _ S₁ h2 fun vs z' s₂ S₂ hz' hvs => h _ _ _ S₂ (hz.trans hz') (.cons (hv.up hz') hvs)) hst
    · cases he

theorem framesL_ok {pos : Pos} {es : List Expr} {fs : List Fm} {Q : Value → Shared → Prop} (S : St g s0 ex ((L, nsP m) :: own) z s) (N : Names g mg mb) (B : Blt mg mb) (hh : A.handled = none) (H : Reads1 env L m ρ) (he : framesK ρ es = some fs) (hz : fs.length ≤ 100)
    (h : ∀ a vs z' s₁, St g s0 ex ((L, nsP m) :: (a, plainP vs) :: own) z' s₁ → TupSub z z' → Paired (FrAt z') fs vs → Q (.ref a) s₁) : wpAny (model prog w) A (eval (.List es pos) env) Q NoE s := by
  refine List_ (frames_ok N B hh H es fs z s _ S he fun vs z' s₁ S₁ hz' hvs => mkList S₁ (by have := hvs.length; rw [sizeLine_eq]; omega) fun a s₂ S₂ => h a vs z' s₂ S₂ hz' hvs)
end

/-! the frames that the law draws -/
def menuF (a b : Int) : List Fm :=
  [[.str "padding", .num 3], [.str "ping"], [.str "ack", .num 0, .opq, .none], [.str "reset_stream", .num a, .num b, .num 9], [.str "stop_sending", .num a, .num b],
   [.str "crypto", .num b, .bytes [120, 121]], [.str "new_token", .bytes [a.toNat.toUInt8]], [.str "stream", .num a, .num b, .bytes [122], .num 1], [.str "max_data", .num b],
   [.str "max_stream_data", .num a, .num b], [.str "max_streams", .num (if a == 0 then 1 else 0), .num b], [.str "data_blocked", .num b], [.str "stream_data_blocked", .num a, .num b],
   [.str "streams_blocked", .num (if a == 0 then 1 else 0), .num b], [.str "new_connection_id", .num a, .num 0, .bytes [105, 100], .bytes [116]], [.str "retire_connection_id", .num a],
   [.str "path_challenge", .bytes [49, 50, 51, 52, 53, 54, 55, 56]], [.str "path_response", .bytes [49, 50, 51, 52, 53, 54, 55, 56]], [.str "close", .num 0, .none, .bytes []], [.str "handshake_done"]]

section
variable {g : Heap} {s : Shared} {prog : Program} {w : World} {A : Around} {a ad P scr : Addr} {mg mb : PySem.Str → Option Value}
set_option maxHeartbeats 400000 in
theorem frame_spec {k : Nat} (hg : GSub g s) (N : Names g mg mb) (hf : FnN g a 12) (hfd : FnN g ad 11) (hd : mg "_law_draw" = some (.ref ad)) (R : Room A (k + 2)) (hP : ∃ o, s.heap.get? P = some o ∧ poolP scr o) (hsc : ScrAt s.heap scr) (hne : scr ≠ P)
    (hgP : ∀ b o, g.get? b = some o → b ≠ P) (B : Blt mg mb) :
    wpAny (model prog w) A (call (.ref a) [.ref P]) (fun v s' => KeepsX [P] s s' ∧ (∃ o, s'.heap.get? P = some o ∧ poolP scr o) ∧ ∃ x y f, 0 ≤ x ∧ x < 3 ∧ f ∈ menuF x y ∧ FrAt s'.heap f v) NoE s := by
  obtain ⟨oP, eP, hpo⟩ := hP
  refine callP (own := [(P, poolP scr)]) (ex := [P]) (binds := [("pool", .ref P)]) hg N hf R (fun b o e => by simpa using hgP b o e)
    (fun q hq => by rw [List.mem_singleton.mp hq]; exact ⟨⟨oP, eP, hpo, poolP_tp hpo⟩, by simp⟩) (by simp) (fun _ _ _ => by rfl) (by rfl) ?_
  intro cd L s₁ R₁ S
  show wpAny _ _ (execs (bodyAt 12) _) _ _ _
  refine wpAny_execs_cons (Assign_Tuple_swapped ?_)
  walk_at "qs"
  refine callG ‹_› N hd hfd ?_
  walk_at "qs"
  have scrAt : ∀ {own z s'}, St g s [P] own z s' → ScrAt s'.heap scr := fun S' => let ⟨vs, ns, ⟨o, e, r⟩, q⟩ := hsc; ⟨vs, ns, ⟨o, S'.keep _ _ (by simpa using hne) e, r⟩, q⟩
  refine ⟨⟨_, _, ‹_›⟩, drawS ‹_› (by k_mem) N hfd R₁ (scrAt ‹_›) hne (by decide) B ?_⟩
  intro x tx s₂ S₂ _ hx0 hx1
  walk_at "qs"
  refine callG ‹_› N hd hfd ?_
  walk_at "qs"
  refine ⟨⟨_, _, ‹_›⟩, drawS ‹_› (by k_mem) N hfd R₁ (scrAt ‹_›) hne (by decide) B ?_⟩
  intro y ty s₃ S₃ _ hy0 hy1
  walk_at "qs"
  refine unpk ‹_› ‹_› R₁.handled rfl ?_
  intro s₄ S₄ _
  refine wpAny_assignInOrder_more (wpAny_bindName ?_)
  walk_at "q"
  refine wpAny_assignInOrder_more (wpAny_bindName ?_)
  walk_at "q"
  refine wpAny_assignInOrder_none ?_
  have S₅ := ‹St g s [P] _ _ _›
  have HR : ∀ m : PySem.Str → Option Value, m "a" = some (.int x tx) → m "b" = some (.int y ty) → Reads1 (envOf (nameAt 12) (scopeAt 12) L a cd) L m (fun x' => if x' = ("a" : PySem.Str) then some x else if x' = ("b" : PySem.Str) then some y else none) :=
    fun m ha hb => ⟨rfl, rfl, rfl, rfl, rfl, fun x' i hx => by
      by_cases e1 : x' = ("a" : PySem.Str)
      · subst e1; rw [if_pos rfl] at hx; cases hx; exact ⟨⟨hx0, by omega⟩, ⟨tx, ha⟩, rfl, rfl⟩
      · rw [if_neg e1] at hx
        by_cases e2 : x' = ("b" : PySem.Str)
        · subst e2; rw [if_pos rfl] at hx; cases hx; exact ⟨⟨hy0, by omega⟩, ⟨ty, hb⟩, rfl, rfl⟩
        · rw [if_neg e2] at hx; cases hx⟩
  iterate 2 walk_at "q"
  with_reducible refine' framesL_ok (fs := [[.str "padding", .num 3], [.str "ping"], [.str "ack", .num 0, .opq, .none], [.str "reset_stream", .num x, .num y, .num 9], [.str "stop_sending", .num x, .num y]]) ?S N B R₁.handled ?H ?e ?d ?_
  case S => assumption
  case H => exact HR _ rfl rfl
  case e => rfl
  case d => exact Nat.le_of_ble_eq_true rfl
  intro M0 v0 z0 sl0 Sl0 hz0 hv0
  have hw0 := hv0.length
  simp only [List.length_cons, List.length_nil] at hw0
  iterate 5 walk_at "q"
  with_reducible refine' framesL_ok (fs := [[.str "crypto", .num y, .bytes [120, 121]], [.str "new_token", .bytes [x.toNat.toUInt8]], [.str "stream", .num x, .num y, .bytes [122], .num 1], [.str "max_data", .num y]]) ?S N B R₁.handled ?H ?e ?d ?_
  case S => assumption
  case H => exact HR _ rfl rfl
  case e => rfl
  case d => exact Nat.le_of_ble_eq_true rfl
  intro M1 v1 z1 sl1 Sl1 hz1 hv1
  have hw1 := hv1.length
  simp only [List.length_cons, List.length_nil] at hw1
  have hl1 : (v0).length + v1.length ≤ 100 := by (try simp only [List.length_append]); omega
  with_reducible refine' addLs ?S ?l ?b ?z ?_
  case S => assumption
  case l => exact Sl1.plainL (vs := v0) (by k_mem)
  case b => exact Sl1.plainL (vs := v1) (by k_mem)
  case z => rw [sizeLine_eq]; omega
  intro Ma1 sa1 Sa1
  iterate 5 walk_at "q"
  with_reducible refine' framesL_ok (fs := [[.str "max_stream_data", .num x, .num y], [.str "max_streams", .num (if x == 0 then 1 else 0), .num y], [.str "data_blocked", .num y], [.str "stream_data_blocked", .num x, .num y]]) ?S N B R₁.handled ?H ?e ?d ?_
  case S => assumption
  case H => exact HR _ rfl rfl
  case e => rfl
  case d => exact Nat.le_of_ble_eq_true rfl
  intro M2 v2 z2 sl2 Sl2 hz2 hv2
  have hw2 := hv2.length
  simp only [List.length_cons, List.length_nil] at hw2
  have hl2 : (v0 ++ v1).length + v2.length ≤ 100 := by (try simp only [List.length_append]); omega
  with_reducible refine' addLs ?S ?l ?b ?z ?_
  case S => assumption
  case l => exact Sl2.plainL (vs := v0 ++ v1) (by k_mem)
  case b => exact Sl2.plainL (vs := v2) (by k_mem)
  case z => rw [sizeLine_eq]; omega
  intro Ma2 sa2 Sa2
  iterate 5 walk_at "q"
  with_reducible refine' framesL_ok (fs := [[.str "streams_blocked", .num (if x == 0 then 1 else 0), .num y], [.str "new_connection_id", .num x, .num 0, .bytes [105, 100], .bytes [116]], [.str "retire_connection_id", .num x]]) ?S N B R₁.handled ?H ?e ?d ?_
  case S => assumption
  case H => exact HR _ rfl rfl
  case e => rfl
  case d => exact Nat.le_of_ble_eq_true rfl
  intro M3 v3 z3 sl3 Sl3 hz3 hv3
  have hw3 := hv3.length
  simp only [List.length_cons, List.length_nil] at hw3
  have hl3 : (v0 ++ v1 ++ v2).length + v3.length ≤ 100 := by (try simp only [List.length_append]); omega
  with_reducible refine' addLs ?S ?l ?b ?z ?_
  case S => assumption
  case l => exact Sl3.plainL (vs := v0 ++ v1 ++ v2) (by k_mem)
  case b => exact Sl3.plainL (vs := v3) (by k_mem)
  case z => rw [sizeLine_eq]; omega
  intro Ma3 sa3 Sa3
  iterate 5 walk_at "q"
  with_reducible refine' framesL_ok (fs := [[.str "path_challenge", .bytes [49, 50, 51, 52, 53, 54, 55, 56]], [.str "path_response", .bytes [49, 50, 51, 52, 53, 54, 55, 56]], [.str "close", .num 0, .none, .bytes []], [.str "handshake_done"]]) ?S N B R₁.handled ?H ?e ?d ?_
  case S => assumption
  case H => exact HR _ rfl rfl
  case e => rfl
  case d => exact Nat.le_of_ble_eq_true rfl
  intro M4 v4 z4 sl4 Sl4 hz4 hv4
  have hw4 := hv4.length
  simp only [List.length_cons, List.length_nil] at hw4
  have hl4 : (v0 ++ v1 ++ v2 ++ v3).length + v4.length ≤ 100 := by (try simp only [List.length_append]); omega
  with_reducible refine' addLs ?S ?l ?b ?z ?_
  case S => assumption
  case l => exact Sl4.plainL (vs := v0 ++ v1 ++ v2 ++ v3) (by k_mem)
  case b => exact Sl4.plainL (vs := v4) (by k_mem)
  case z => rw [sizeLine_eq]; omega
  intro Ma4 sa4 Sa4
  iterate 5 walk_at "q"
  refine callG ‹_› N hd hfd ?_
  iterate 5 walk_at "q"
  refine ⟨⟨_, _, ‹_›⟩, drawS ‹_› (by k_mem) N hfd R₁ (scrAt ‹_›) hne (by decide) B ?_⟩
  intro r tr sz Sz _ hr0 hr1
  have z04 : TupSub z0 z4 := ((hz1.trans hz2).trans hz3).trans hz4
  have z14 : TupSub z1 z4 := (hz2.trans hz3).trans hz4
  have hall : Paired (FrAt z4) (menuF x y) (v0 ++ v1 ++ v2 ++ v3 ++ v4) :=
    paired_append (paired_append (paired_append (paired_append (Paired.imp hv0 fun h => h.up z04) (Paired.imp hv1 fun h => h.up z14)) (Paired.imp hv2 fun h => h.up (hz3.trans hz4))) (Paired.imp hv3 fun h => h.up hz4)) hv4
  obtain ⟨f, hf1⟩ : ∃ f, (menuF x y)[r.toNat]? = some f := ⟨_, List.getElem?_eq_getElem (by simp only [menuF, List.length_cons, List.length_nil]; omega)⟩
  obtain ⟨v, hv, hfv⟩ := paired_get hall hf1
  refine lsItem (Sz.plainL (by k_mem)) hr0 (by omega) hv ?_
  exact ⟨Sz.done, let ⟨o, e, q, _⟩ := Sz.at (by k_mem : (P, poolP scr) ∈ _); ⟨o, e, q⟩, x, y, f, hx0, hx1, List.mem_of_getElem? hf1, hfv.up Sz.tu⟩
end

/-! loops and comprehensions, by an invariant over what is owned -/
section
variable {g : Heap} {s0 : Shared} {ex : List Addr} {own : List (Addr × (Obj → Prop))} {z : Heap} {s s' : Shared}
/-- an object is given up -/
theorem St.lose {pre post : List (Addr × (Obj → Prop))} {a : Addr} {P : Obj → Prop} (S : St g s0 ex (pre ++ (a, P) :: post) z s) {h' : Heap} {tk : Nat}
    (hk : ∀ b o, b ≠ a → s.heap.get? b = some o → h'.get? b = some o) : St g s0 ex (pre ++ post) z { s with heap := h', toks := tk } := by
  have hmem : (a, P) ∈ pre ++ (a, P) :: post := List.mem_append.mpr (.inr (.head _))
  have hnd := S.nd
  rw [List.map_append, List.map_cons, List.nodup_append, List.nodup_cons] at hnd
  obtain ⟨n1, ⟨n2, n2'⟩, n3⟩ := hnd
  have hne : ∀ p, p ∈ pre ∨ p ∈ post → p.1 ≠ a := by
    rintro p (hp | hp) e
    · exact n3 p.1 (List.mem_map.mpr ⟨p, hp, rfl⟩) a (.head _) e
    · exact n2 (e ▸ List.mem_map.mpr ⟨p, hp, rfl⟩)
  have hna : ∀ b o, b ∉ ex → s0.heap.get? b = some o → b ≠ a := by
    intro b o hb e rfl
    rcases (S.hold _ hmem).2 with h | h
    · exact hb h
    · rw [e] at h; cases h
  refine ⟨let ⟨_, _, e⟩ := S.alike; ⟨h', tk, by rw [e]⟩, S.sub, fun b o hb e => hk _ _ (hna b o hb e) (S.keep b o hb e), ?_, ?_, ?_⟩
  · intro p hp
    have hp' := List.mem_append.mp hp
    obtain ⟨⟨o, e, r⟩, q⟩ := S.hold p (List.mem_append.mpr (hp'.imp id fun h => .tail _ h))
    exact ⟨⟨o, hk _ _ (hne p hp') e, r⟩, q⟩
  · rw [List.map_append, List.nodup_append]
    exact ⟨n1, n2', fun x hx y hy => n3 x hx y (.tail _ hy)⟩
  · intro b o e t
    have h1 := S.tu b o e t
    refine hk b o ?_ h1
    rintro rfl
    obtain ⟨⟨o1, e1, _, c1⟩, _⟩ := S.hold _ hmem
    rw [h1] at e1
    cases e1
    exact c1 t
theorem St.perm {own' : List (Addr × (Obj → Prop))} (S : St g s0 ex own z s) (hp : own.Perm own') : St g s0 ex own' z s :=
  S.mono (fun _ h => hp.mem_iff.mpr h) ((hp.map _).nodup_iff.mp S.nd)
theorem St.toEnd {p : Addr × (Obj → Prop)} (S : St g s0 ex (p :: own) z s) : St g s0 ex (own ++ [p]) z s := S.perm (List.perm_append_singleton p own).symm
end

/-- an iterator: what it owns at each step, what must stand, what it hands out -/
structure Itr (prog : Program) (w : World) (A : Around) (target : Expr) (I : Addr) (n : Nat) (its : Nat → List (Addr × (Obj → Prop))) (H : Heap → Prop) (V : Nat → Value → Heap → Prop) : Prop where
  item : ∀ {g s0 ex own z s} (i : Nat) (Q : Value → Shared → Prop), i < n → St g s0 ex (own ++ its i) z s → H s.heap → (∀ v s', V i v s'.heap → St g s0 ex (own ++ its (i + 1)) z s' → Q v s') →
    wpAny (model prog w) A (pyNext (.ref I)) (fun r s₁ => match r with | none => False | some v => wpAny (model prog w) A (letOwnedTupleGo target (.ref I) v) (fun _ s' => Q v s') NoE s₁) NoE s
  done : ∀ {g s0 ex own z s} (Q : Shared → Prop), St g s0 ex (own ++ its n) z s → H s.heap → (∀ s', St g s0 ex own z s' → Q s') →
    wpAny (model prog w) A (pyNext (.ref I)) (fun r s₁ => match r with | none => Q s₁ | some _ => False) NoE s
  self : ∀ {g s0 ex own z s} (Q : Value → Shared → Prop), St g s0 ex (own ++ its 0) z s → Q (.ref I) s → wpAny (model prog w) A (pyIter (.ref I)) Q NoE s

def lsIterP (l : Addr) (i : Nat) : Obj → Prop := fun o => o.cls = .type "list_iterator" ∧ o.data = .fields #[.ref l, .int i 0]
theorem lsIterP_tp {l : Addr} {i : Nat} {o : Obj} (h : lsIterP l i o) : ¬ isTp o := fun ⟨_, _, _, e⟩ => by rw [h.2] at e; cases e

section
variable {prog : Program} {w : World} {A : Around}
theorem itrLs (hh : A.handled = none) (I l : Addr) (vs : List Value) (target : Expr) (ht : (∀ v, letOwnedTupleGo target (.ref I) v = pure ()) ∨ ((∃ es k p, target = .Tuple es k p) ∧ ∀ v ∈ vs, ∃ a, v = .ref a)) :
    Itr prog w A target I vs.length (fun i => [(I, lsIterP l i)]) (fun h => h.IsList l vs.toArray) (fun i v _ => vs[i]? = some v) where
  item := fun {g s0 ex own z s} i Q hi S hl hQ => by
    obtain ⟨o, e, q, _⟩ := S.at (List.mem_append.mpr (.inr (.head _)) : (I, lsIterP l i) ∈ own ++ [(I, lsIterP l i)])
    have hv : vs[i]? = some vs[i] := List.getElem?_eq_getElem hi
    refine wpAny_pyNext_list_item ⟨o, e, q⟩ hl (x := vs[i]) (by simp [hi]) fun h' hit' hs' => ?_
    obtain ⟨o', e', q'⟩ := hit'
    have S' : St g s0 ex (own ++ [(I, lsIterP l (i + 1))]) z { s with heap := h' } := S.change (tk := s.toks) (fun b o hb x => hs'.extBut b o hb x) e' q' (lsIterP_tp q')
    rcases ht with ht | ⟨⟨es, k, p, rfl⟩, hr⟩
    · exact wpAny_of_eq (ht _) (hQ _ _ hv S')
    · obtain ⟨a, ha⟩ := hr _ (List.getElem_mem hi)
      show wpAny _ _ (letOwnedTupleGo _ _ vs[i]) _ _ _
      rw [ha]
      exact wpAny_letOwnedTupleGo_listiter (i := i + 1) ⟨o', e', q'⟩ (ha ▸ hQ _ _ hv S')
  done := fun {g s0 ex own z s} Q S hl hQ => by
    obtain ⟨o, e, q, _⟩ := S.at (List.mem_append.mpr (.inr (.head _)) : (I, lsIterP l vs.length) ∈ own ++ [(I, lsIterP l vs.length)])
    refine wpAny_pyNext_list_end hh ⟨o, e, q⟩ hl (by simp) fun h' he' => ?_
    have := S.lose (tk := s.toks) (h' := h') (fun b o hb x => he' b o hb x)
    rw [List.append_nil] at this
    exact hQ _ this
  self := fun {g s0 ex own z s} Q S hQ => by
    obtain ⟨o, e, q, _⟩ := S.at (List.mem_append.mpr (.inr (.head _)) : (I, lsIterP l 0) ∈ own ++ [(I, lsIterP l 0)])
    exact wpAny_pyIter_listiter ⟨o, e, q⟩ hQ

theorem iterLs {g : Heap} {s0 : Shared} {ex : List Addr} {own : List (Addr × (Obj → Prop))} {z : Heap} {s : Shared} {l : Addr} {vs : List Value} {Q : Value → Shared → Prop} (S : St g s0 ex own z s) (hl : s.heap.IsList l vs.toArray)
    (h : ∀ I s', St g s0 ex (own ++ [(I, lsIterP l 0)]) z s' → Q (.ref I) s') : wpAny (model prog w) A (pyIter (.ref l)) Q NoE s :=
  wpAny_pyIter_list hl (h _ _ (S.push _ ⟨rfl, rfl⟩ (lsIterP_tp ⟨rfl, rfl⟩)).toEnd)

/-- a for loop -/
theorem forA {g : Heap} {s0 : Shared} {ex : List Addr} {own : List (Addr × (Obj → Prop))} {z : Heap} {s : Shared} {env : Env} {target : Expr} {body : List Stmt} {I : Addr} {n : Nat} {its : Nat → List (Addr × (Obj → Prop))} {H : Heap → Prop} {V : Nat → Value → Heap → Prop} {Q : Flow → Shared → Prop} {E' : Value → Shared → Prop}
    (It : Itr prog w A target I n its H V) (J : Nat → List (Addr × (Obj → Prop)) → Heap → Prop) (S : St g s0 ex (own ++ its 0) z s) (h0 : J 0 own z)
    (HL : ∀ i own' z' s', J i own' z' → ∀ tl, St g s0 ex (own' ++ tl) z' s' → H s'.heap)
    (turn : ∀ i v own' z' s₁ tl, i < n → J i own' z' → V i v s₁.heap → St g s0 ex (own' ++ tl) z' s₁ →
      wpAny (model prog w) A (assign target env v) (fun _ s₂ => wpAny (model prog w) A (execs body env) (fun f s₃ => match f with
        | .next | .cont => ∃ own₂ z₂, St g s0 ex (own₂ ++ tl) z₂ s₃ ∧ J (i + 1) own₂ z₂
        | .brk => False
        | .ret v => Q (.ret v) s₃) NoE s₂) NoE s₁)
    (done : ∀ own' z' s', J n own' z' → St g s0 ex own' z' s' → Q .next s') :
    codeAny (model prog w) A (.forLoop target (.ref I) body [] env) (fun r s' => match r with | .ok f => Q f s' | .error e => E' e s') s := by
  refine codeAny_forLoop_any (fun k s' => ∃ i own' z', St g s0 ex (own' ++ its i) z' s' ∧ J i own' z' ∧ i ≤ n ∧ k = n + 1 - i) ?_ (n + 1) ⟨0, own, z, S, h0, Nat.zero_le _, rfl⟩
  rintro k s' ⟨i, own', z', S', hJ, hi, rfl⟩
  by_cases hlt : i < n
  · refine wpAny_mono (It.item i (fun v s₁ => wpAny (model prog w) A (assign target env v) (fun _ s₂ => wpAny (model prog w) A (execs body env) (fun f s₃ => match f with
        | .next | .cont => ∃ own₂ z₂, St g s0 ex (own₂ ++ its (i + 1)) z₂ s₃ ∧ J (i + 1) own₂ z₂
        | .brk => False
        | .ret v => Q (.ret v) s₃) NoE s₂) NoE s₁) hlt S' (HL i own' z' s' hJ _ S') (fun v s₁ hv S₁ => turn i v own' z' s₁ _ hlt hJ hv S₁)) (fun r s₁ hr => ?_) fun _ _ e => e.elim
    cases r with
    | none => exact hr.elim
    | some v =>
      refine wpAny_mono hr (fun _ s₂ h₂ => wpAny_mono h₂ (fun _ s₃ h₃ => wpAny_mono h₃ (fun f s₄ h₄ => ?_) fun _ _ e => e.elim) fun _ _ e => e.elim) fun _ _ e => e.elim
      cases f with
      | next => obtain ⟨own₂, z₂, S₂, hJ₂⟩ := h₄; exact ⟨n + 1 - (i + 1), by omega, i + 1, own₂, z₂, S₂, hJ₂, hlt, rfl⟩
      | cont => obtain ⟨own₂, z₂, S₂, hJ₂⟩ := h₄; exact ⟨n + 1 - (i + 1), by omega, i + 1, own₂, z₂, S₂, hJ₂, hlt, rfl⟩
      | brk => exact h₄.elim
      | ret v => exact h₄
  · have hin : i = n := by omega
    subst hin
    refine wpAny_mono (It.done (fun s₁ => Q .next s₁) S' (HL i own' z' s' hJ _ S') (fun s₁ S₁ => done own' z' s₁ hJ S₁)) (fun r s₁ hr => ?_) fun _ _ e => e.elim
    cases r with
    | none => exact wpAny_execs_nil hr
    | some v => exact hr.elim

/-- the turns of a list comprehension with one clause -/
theorem compLoopA {elt target iter : Expr} {ifs : List Expr} {scope : Scope} {pos : Pos} {it acc : Value} {env : Env} {R : Result → Shared → Prop} {s : Shared} (I : Nat → Shared → Prop)
    (turn : ∀ n s, I n s → wpAny (model prog w) A (pyNext it) (fun r s₁ => match r with
      | none => R (.ok .next) s₁
      | some v => wpAny (model prog w) A (letOwnedTupleGo target it v) (fun _ s₁' => wpAny (model prog w) A (assign target env v) (fun _ s₂ =>
          wpAny (model prog w) A (forIn ifs true fun c r => if r = true then do let ok ← isTrue c env (eval c env); pure (ForInStep.yield ok) else pure (ForInStep.yield r)) (fun ok s₃ =>
            if ok = true then wpAny (model prog w) A (eval elt env) (fun x s₄ =>
              wpAny (model prog w) A (call (.builtin "list.append") [acc, x]) (fun _ s₅ => ∃ m, m < n ∧ I m s₅) NoE s₄) NoE s₃
            else ∃ m, m < n ∧ I m s₃) NoE s₂) NoE s₁') NoE s₁) NoE s)
    (n : Nat) (h : I n s) : codeAny (model prog w) A (.compLoop (.ListComp elt [⟨target, iter, ifs, 0⟩] scope pos) 0 it acc env) R s := by
  refine codeAny_loop rfl I (fun n s hI => ?_) n h
  show wpAny _ A ((compTurn (.ListComp elt [⟨target, iter, ifs, 0⟩] scope pos) 0 it acc env).onRaise (fun x => do noteFrame x env; theTreesLotGoes x)) _ _ s
  refine wpAny_noted ?_
  rw [compTurn_list]
  refine wpAny_bind (wpAny_standAt (wpAny_bind (wpAny_mono (turn n s hI) (fun r s₁ h₁ => ?_) fun _ _ e => e.elim)))
  cases r with
  | none => exact wpAny_pure h₁
  | some v =>
    refine wpAny_bind (wpAny_mono h₁ (fun _ s₁' h₁' => ?_) fun _ _ e => e.elim)
    refine wpAny_bind (wpAny_mono h₁' (fun _ s₂ h₂ => wpAny_bind (wpAny_mono h₂ (fun ok s₃ h₃ => ?_) fun _ _ e => e.elim)) fun _ _ e => e.elim)
    cases ok with
    | false => exact wpAny_pure ⟨rfl, h₃⟩
    | true =>
      exact wpAny_bind (wpAny_bind (wpAny_mono h₃ (fun x s₄ h₄ => wpAny_bind (wpAny_mono h₄ (fun _ s₅ h₅ => wpAny_pure (wpAny_pure ⟨rfl, h₅⟩)) fun _ _ e => e.elim)) fun _ _ e => e.elim))

theorem cEnv_kind {scope : Scope} {env : Env} {cl : List (PySem.Str × Addr)} {C : Addr} (h : scope.kind = .function) : (compEnvC scope cl C env).scope.kind = .function := h

/-- the whole of a comprehension behind its first iterator; rest: what stands behind the outer locals -/
theorem compBlk {g : Heap} {s0 : Shared} {ex : List Addr} {q0 : Addr × (Obj → Prop)} {own : List (Addr × (Obj → Prop))} {z : Heap} {s : Shared} {env : Env} {elt target iter : Expr} {ifs : List Expr} {scope : Scope} {pos : Pos} {cl : List (PySem.Str × Addr)} {I : Addr} {n : Nat} {its : Nat → List (Addr × (Obj → Prop))} {H : Heap → Prop} {V : Nat → Value → Heap → Prop}
    {RR : Value → Addr → Result → Shared → Prop}
    (It : Itr prog w A target I n its H V) (J : Nat → List Value → List (Addr × (Obj → Prop)) → Heap → Prop) (hn : n ≤ 1000) (hcell : ∀ y ∈ scope.names, y.2 ≠ .cell) (hkind : scope.kind = .function)
    (S : St g s0 ex (q0 :: (own ++ its 0)) z s) (h0 : J 0 [] own z) (hlen : ∀ i ys own' z', J i ys own' z' → ys.length ≤ i)
    (HL : ∀ i ys own' z' s', J i ys own' z' → ∀ D C mC tl, St g s0 ex ((C, nsP mC) :: (D, plainP ys) :: q0 :: (own' ++ tl)) z' s' → H s'.heap)
    (turn : ∀ i v ys own' z' s₁ tl C D mC, i < n → J i ys own' z' → V i v s₁.heap → St g s0 ex ((C, nsP mC) :: (D, plainP ys) :: q0 :: (own' ++ tl)) z' s₁ →
      wpAny (model prog w) A (assign target (compEnvC scope cl C env) v) (fun _ s₂ =>
        wpAny (model prog w) A (forIn ifs true fun c r => if r = true then do let ok ← isTrue c (compEnvC scope cl C env) (eval c (compEnvC scope cl C env)); pure (ForInStep.yield ok) else pure (ForInStep.yield r)) (fun ok s₃ =>
          if ok = true then wpAny (model prog w) A (eval elt (compEnvC scope cl C env)) (fun y s₄ => ∃ mC' own₂ z₂, St g s0 ex ((C, nsP mC') :: (D, plainP ys) :: q0 :: (own₂ ++ tl)) z₂ s₄ ∧ J (i + 1) (ys ++ [y]) own₂ z₂) NoE s₃
          else ∃ mC' own₂ z₂, St g s0 ex ((C, nsP mC') :: (D, plainP ys) :: q0 :: (own₂ ++ tl)) z₂ s₃ ∧ J (i + 1) ys own₂ z₂) NoE s₂) NoE s₁)
    (done : ∀ ys own' z' s' D C mC, J n ys own' z' → St g s0 ex ((C, nsP mC) :: (D, plainP ys) :: q0 :: own') z' s' → RR (.ref D) C (.ok .next) s') :
    wpAny (model prog w) A (newList []) (fun acc s₃ => wpAny (model prog w) A (newFunctionEnv scope env.globals cl [] env.qual none .none (some env)) (fun cenv s₄ =>
      codeAny (model prog w) A (.compStart (.ListComp elt [⟨target, iter, ifs, 0⟩] scope pos) 0 (.ref I) acc { cenv with scope := relabel scope env }) (RR acc cenv.locals) s₄) NoE s₃) NoE s := by
  refine wpAny_newObj_type ?_
  have S1 := S.push (o := { cls := .type "list", dict := none, data := .seq ([] : List Value).toArray }) (P := plainP []) ⟨0, rfl⟩ (plainP_tp ⟨0, rfl⟩)
  refine wpAny_newFunctionEnv hcell (by intro y hy; simp at hy) (fun h₁ hns hsb => ?_) hkind
  obtain ⟨oC, eC, qC⟩ := nsOf hns
  have S2 := S1.push (o := { cls := .type "dict", data := .dict #[] }) (P := fun _ => True) trivial (fun h => by obtain ⟨_, _, _, h⟩ := h; cases h)
  have S3 := S2.change (pre := []) (P' := nsP fun _ => none) (h' := h₁) (tk := s.toks + ([] : List (PySem.Str × Value)).length) (o' := oC) (fun b o hb e => hsb.extBut b o hb e) eC qC (nsP_tp qC)
  generalize hCe : s.heap.push { cls := .type "list", dict := none, data := .seq ([] : List Value).toArray } = H2 at S3 hns hsb ⊢
  have S4 : St g s0 ex ((H2.objs.size, nsP fun _ => none) :: (s.heap.objs.size, plainP []) :: q0 :: (own ++ its 0)) z { s with heap := h₁, toks := s.toks + ([] : List (PySem.Str × Value)).length } := S3
  have loop : ∀ s₃, St g s0 ex ((H2.objs.size, nsP fun _ => none) :: (s.heap.objs.size, plainP []) :: q0 :: (own ++ its 0)) z s₃ →
      codeAny (model prog w) A (.compLoop (.ListComp elt [⟨target, iter, ifs, 0⟩] scope pos) 0 (.ref I) (.ref s.heap.objs.size) (compEnvC scope cl H2.objs.size env)) (RR (.ref s.heap.objs.size) H2.objs.size) s₃ := by
    intro s₃ S₃
    refine compLoopA (fun k s' => ∃ i ys own' z' mC, St g s0 ex ((H2.objs.size, nsP mC) :: (s.heap.objs.size, plainP ys) :: q0 :: (own' ++ its i)) z' s' ∧ J i ys own' z' ∧ i ≤ n ∧ k = n + 1 - i) ?_ (n + 1) ⟨0, [], own, z, _, S₃, h0, Nat.zero_le _, rfl⟩
    rintro k s' ⟨i, ys, own', z', mC, S', hJ, hi, rfl⟩
    by_cases hlt : i < n
    · have hl := hlen i ys own' z' hJ
      refine wpAny_mono (It.item (own := (H2.objs.size, nsP mC) :: (s.heap.objs.size, plainP ys) :: q0 :: own') i _ hlt S' (HL i ys own' z' s' hJ _ _ _ _ S') (fun v s₁ hv S₁ => turn i v ys own' z' s₁ _ _ _ _ hlt hJ hv S₁)) (fun r s₁ hr => ?_) fun _ _ e => e.elim
      cases r with
      | none => exact hr.elim
      | some v =>
        refine wpAny_mono hr (fun _ s₂ h₂ => wpAny_mono h₂ (fun _ s₃ h₃ => wpAny_mono h₃ (fun ok s₄ h₄ => ?_) fun _ _ e => e.elim) fun _ _ e => e.elim) fun _ _ e => e.elim
        cases ok with
        | false =>
          simp only [Bool.false_eq_true, if_false] at h₄ ⊢
          obtain ⟨mC', own₂, z₂, S₂, hJ₂⟩ := h₄
          exact ⟨n + 1 - (i + 1), by omega, i + 1, ys, own₂, z₂, mC', S₂, hJ₂, hlt, rfl⟩
        | true =>
          simp only [if_true] at h₄ ⊢
          refine wpAny_mono h₄ (fun y s₅ h₅ => ?_) fun _ _ e => e.elim
          obtain ⟨mC', own₂, z₂, S₂, hJ₂⟩ := h₅
          refine wpAny_list_append_plain (hsz := by rw [List.size_toArray, sizeLine_eq]; omega) (S₂.plain (.tail _ (.head _))) fun h' hl' hs' => ?_
          obtain ⟨n', en⟩ := hl'
          have e2 : ys.toArray.push y = (ys ++ [y]).toArray := by simp
          rw [e2] at en
          have S₆ := S₂.change (pre := [(H2.objs.size, nsP mC')]) (P' := plainP (ys ++ [y])) (tk := s₅.toks) (fun b o hb x => hs'.extBut b o hb x) en ⟨n', rfl⟩ (plainP_tp ⟨n', rfl⟩)
          exact ⟨n + 1 - (i + 1), by omega, i + 1, ys ++ [y], own₂, z₂, mC', S₆, hJ₂, hlt, rfl⟩
    · have hin : i = n := by omega
      subst hin
      refine wpAny_mono (It.done (own := (H2.objs.size, nsP mC) :: (s.heap.objs.size, plainP ys) :: q0 :: own') (fun s₁ => RR (.ref s.heap.objs.size) H2.objs.size (.ok .next) s₁) S' (HL i ys own' z' s' hJ _ _ _ _ S') (fun s₁ S₁ => done ys own' z' s₁ _ _ _ hJ S₁)) (fun r s₁ hr => ?_) fun _ _ e => e.elim
      cases r with
      | none => exact hr
      | some v => exact hr.elim
  exact codeAny_compStart_list (loop _ S4) (wpAny_mono (It.self (own := (H2.objs.size, nsP fun _ => none) :: (s.heap.objs.size, plainP []) :: q0 :: own) (fun v s' => v = .ref I ∧ s' = _) S4 ⟨rfl, rfl⟩) (fun v s' h => by obtain ⟨rfl, rfl⟩ := h; exact loop _ S4) fun _ _ e => e.elim)
end

section
variable {prog : Program} {w : World} {A : Around}
/-- a list comprehension as a value: the new list stands at index 1 of what is owned -/
theorem compE {g : Heap} {s0 : Shared} {ex : List Addr} {q0 : Addr × (Obj → Prop)} {own : List (Addr × (Obj → Prop))} {z : Heap} {s : Shared} {env : Env} {elt target iter : Expr} {ifs : List Expr} {scope : Scope} {pos : Pos} {cl : List (PySem.Str × Addr)} {n : Nat} {its : Addr → Nat → List (Addr × (Obj → Prop))} {H : Heap → Prop} {V : Nat → Value → Heap → Prop}
    {Q : Value → Shared → Prop} (J : Nat → List Value → List (Addr × (Obj → Prop)) → Heap → Prop) (hn : n ≤ 1000) (hclos : closureFor scope env = pure cl) (S : St g s0 ex (q0 :: own) z s)
    (hit : ∀ s₁ (Q' : Value → Shared → Prop), (∀ I own₁ z₁ s₂, Itr prog w A target I n (its I) H V → St g s0 ex (q0 :: (own₁ ++ its I 0)) z₁ s₂ → J 0 [] own₁ z₁ → Q' (.ref I) s₂) → s₁ = s →
      wpAny (model prog w) A (eval iter env) (fun x s₂ => wpAny (model prog w) A (pyIter x) Q' NoE s₂) NoE s₁)
    (hlen : ∀ i ys own' z', J i ys own' z' → ys.length ≤ i)
    (HL : ∀ i ys own' z' s', J i ys own' z' → ∀ D C mC tl, St g s0 ex ((C, nsP mC) :: (D, plainP ys) :: q0 :: (own' ++ tl)) z' s' → H s'.heap)
    (turn : ∀ i v ys own' z' s₁ tl C D mC, i < n → J i ys own' z' → V i v s₁.heap → St g s0 ex ((C, nsP mC) :: (D, plainP ys) :: q0 :: (own' ++ tl)) z' s₁ →
      wpAny (model prog w) A (assign target (compEnvC scope cl C env) v) (fun _ s₂ =>
        wpAny (model prog w) A (forIn ifs true fun c r => if r = true then do let ok ← isTrue c (compEnvC scope cl C env) (eval c (compEnvC scope cl C env)); pure (ForInStep.yield ok) else pure (ForInStep.yield r)) (fun ok s₃ =>
          if ok = true then wpAny (model prog w) A (eval elt (compEnvC scope cl C env)) (fun y s₄ => ∃ mC' own₂ z₂, St g s0 ex ((C, nsP mC') :: (D, plainP ys) :: q0 :: (own₂ ++ tl)) z₂ s₄ ∧ J (i + 1) (ys ++ [y]) own₂ z₂) NoE s₃
          else ∃ mC' own₂ z₂, St g s0 ex ((C, nsP mC') :: (D, plainP ys) :: q0 :: (own₂ ++ tl)) z₂ s₃ ∧ J (i + 1) ys own₂ z₂) NoE s₂) NoE s₁)
    (done : ∀ ys own' z' s' D, J n ys own' z' → St g s0 ex (q0 :: (D, plainP ys) :: own') z' s' → Q (.ref D) s')
    (hkind : scope.kind = .function := by rfl) (hcell : ∀ y ∈ scope.names, y.2 ≠ .cell := by decide) (hnames : ∀ y ∈ scope.names, y.2 = .local → scope.names.lookup y.1 = some .local := by decide) (hs : ∀ x, foldedSetIterable iter env x = pure x := by intro _; rfl) :
    wpAny (model prog w) A (eval (.ListComp elt [⟨target, iter, ifs, 0⟩] scope pos) env) Q NoE s := by
  rw [eval_ListComp]
  refine wpAny_comprehension_free (use := none) rfl hs hclos hkind hnames (hit s _ (fun I own₁ z₁ s₂ It S₂ hJ => ?_) rfl)
  refine compBlk (RR := fun acc C => compPost (model prog w) A NoE none Q acc C) It J hn hcell hkind S₂ hJ hlen HL turn (fun ys own' z' s' D C mC hJ S' => ?_)
  exact ⟨mC, S'.ns (.head _), fun h' hs' => done ys own' z' _ D hJ (S'.lose (pre := []) (tk := s'.toks) fun b o hb e => hs'.extBut b o hb e).swap⟩

/-- a name bound to a list comprehension; the locals at the head of what is owned -/
theorem compU {g : Heap} {s0 : Shared} {ex : List Addr} {L : Addr} {m : PySem.Str → Option Value} {own : List (Addr × (Obj → Prop))} {z : Heap} {s : Shared} {env : Env} {elt target iter : Expr} {ifs : List Expr} {scope : Scope} {pos spos py : Pos} {y : PySem.Str} {cl : List (PySem.Str × Addr)} {n : Nat} {its : Addr → Nat → List (Addr × (Obj → Prop))} {H : Heap → Prop} {V : Nat → Value → Heap → Prop}
    {Q : Flow → Shared → Prop} (J : Nat → List Value → List (Addr × (Obj → Prop)) → Heap → Prop) (hn : n ≤ 1000) (hclos : closureFor scope env = pure cl) (S : St g s0 ex ((L, nsP m) :: own) z s)
    (hit : ∀ s₁ (Q' : Value → Shared → Prop), (∀ I own₁ z₁ s₂, Itr prog w A target I n (its I) H V → St g s0 ex ((L, nsP m) :: (own₁ ++ its I 0)) z₁ s₂ → J 0 [] own₁ z₁ → Q' (.ref I) s₂) → s₁ = s →
      wpAny (model prog w) A (eval iter env) (fun x s₂ => wpAny (model prog w) A (pyIter x) Q' NoE s₂) NoE s₁)
    (hlen : ∀ i ys own' z', J i ys own' z' → ys.length ≤ i)
    (HL : ∀ i ys own' z' s', J i ys own' z' → ∀ D C mC tl, St g s0 ex ((C, nsP mC) :: (D, plainP ys) :: (L, nsP m) :: (own' ++ tl)) z' s' → H s'.heap)
    (turn : ∀ i v ys own' z' s₁ tl C D mC, i < n → J i ys own' z' → V i v s₁.heap → St g s0 ex ((C, nsP mC) :: (D, plainP ys) :: (L, nsP m) :: (own' ++ tl)) z' s₁ →
      wpAny (model prog w) A (assign target (compEnvC scope cl C env) v) (fun _ s₂ =>
        wpAny (model prog w) A (forIn ifs true fun c r => if r = true then do let ok ← isTrue c (compEnvC scope cl C env) (eval c (compEnvC scope cl C env)); pure (ForInStep.yield ok) else pure (ForInStep.yield r)) (fun ok s₃ =>
          if ok = true then wpAny (model prog w) A (eval elt (compEnvC scope cl C env)) (fun y s₄ => ∃ mC' own₂ z₂, St g s0 ex ((C, nsP mC') :: (D, plainP ys) :: (L, nsP m) :: (own₂ ++ tl)) z₂ s₄ ∧ J (i + 1) (ys ++ [y]) own₂ z₂) NoE s₃
          else ∃ mC' own₂ z₂, St g s0 ex ((C, nsP mC') :: (D, plainP ys) :: (L, nsP m) :: (own₂ ++ tl)) z₂ s₃ ∧ J (i + 1) ys own₂ z₂) NoE s₂) NoE s₁)
    (done : ∀ ys own' z' s' D, J n ys own' z' → St g s0 ex ((L, nsP fun x => if x = y then some (.ref D) else m x) :: (D, plainP ys) :: own') z' s' → Q .next s')
    (hsw : swapsWith (.ListComp elt [⟨target, iter, ifs, 0⟩] scope pos) (some (.Name y py)) spos.line env = pure true := by rfl)
    (hL : env.locals = L := by rfl) (hk : env.scope.kind = .function := by rfl) (hl : env.kindOf y = some .local := by rfl)
    (hkind : scope.kind = .function := by rfl) (hcell : ∀ y ∈ scope.names, y.2 ≠ .cell := by decide) (hnames : ∀ y ∈ scope.names, y.2 = .local → scope.names.lookup y.1 = some .local := by decide) (hs : ∀ x, foldedSetIterable iter env x = pure x := by intro _; rfl) :
    wpAny (model prog w) A (exec (.Assign [.Name y py] (.ListComp elt [⟨target, iter, ifs, 0⟩] scope pos) spos) env) Q NoE s := by
  rw [exec_Assign_Name_used _ _ _ _ hsw]
  refine wpAny_bind (wpAny_standAt (wpAny_bind ?_))
  show wpAny _ A (do let _ ← comprehension (.ListComp elt [⟨target, iter, ifs, 0⟩] scope pos) scope env _ (newList []) false (eval iter env) (some (assign (.Name y py) env))) _ _ s
  refine wpAny_bind (wpAny_mono (wpAny_comprehension_free (use := some (assign (.Name y py) env)) (Q := fun _ s' => Q .next s') rfl hs hclos hkind hnames (hit s _ (fun I own₁ z₁ s₂ It S₂ hJ => ?_) rfl)) (fun _ s' hq => wpAny_pure (wpAny_pure hq)) fun _ _ e => e)
  refine compBlk (RR := fun acc C => compPost (model prog w) A NoE (some (assign (.Name y py) env)) (fun _ s' => Q .next s') acc C) It J hn hcell hkind S₂ hJ hlen HL turn (fun ys own' z' s' D C mC hJ S' => ?_)
  show wpAny _ A (assign (.Name y py) env (.ref D)) _ _ _
  have S'' : St g s0 ex ((L, nsP m) :: (C, nsP mC) :: (D, plainP ys) :: own') z' s' := S'.perm (by exact (List.Perm.cons _ (List.Perm.swap _ _ _)).trans (List.Perm.swap _ _ _))
  refine wpAny_assign_Name (stL (x := y) (v := .ref D) S'' (fun s₁ S₁ => ?_) hL hk hl)
  exact ⟨mC, S₁.ns (.tail _ (.head _)), fun h' hs' => done ys own' z' _ D hJ (S₁.lose (pre := [(L, nsP fun x => if x = y then some (.ref D) else m x)]) (tk := s₁.toks) fun b o hb e => hs'.extBut b o hb e)⟩
end

/-! more iterators: range, tuple, enumerate -/
section
variable {g : Heap} {s0 : Shared} {ex : List Addr} {own : List (Addr × (Obj → Prop))} {z : Heap} {s s' : Shared}
/-- objects of what is owned change, all else stands -/
theorem St.remap {own' : List (Addr × (Obj → Prop))} (S : St g s0 ex own z s) {h' : Heap} {tk : Nat} (hmap : own'.map (·.1) = own.map (·.1)) (hnew : ∀ p ∈ own', ∃ o, h'.get? p.1 = some o ∧ p.2 o ∧ ¬ isTp o)
    (hk : ∀ b o, b ∉ own.map (·.1) → s.heap.get? b = some o → h'.get? b = some o) : St g s0 ex own' z { s with heap := h', toks := tk } := by
  have hmem : ∀ b, b ∈ own.map (·.1) → b ∈ ex ∨ s0.heap.get? b = none := fun b hb => by
    obtain ⟨p, hp, rfl⟩ := List.mem_map.mp hb
    exact (S.hold p hp).2
  refine ⟨let ⟨_, _, e⟩ := S.alike; ⟨h', tk, by rw [e]⟩, S.sub, fun b o hb e => hk b o (fun hm => ?_) (S.keep b o hb e), fun p hp => ⟨hnew p hp, hmem p.1 (hmap ▸ List.mem_map.mpr ⟨p, hp, rfl⟩)⟩, hmap ▸ S.nd, fun b o e t => hk b o (fun hm => ?_) (S.tu b o e t)⟩
  · rcases hmem b hm with h | h
    · exact hb h
    · rw [e] at h; cases h
  · obtain ⟨p, hp, rfl⟩ := List.mem_map.mp hm
    obtain ⟨⟨o', e', _, c⟩, _⟩ := S.hold p hp
    rw [S.tu _ o e t] at e'
    cases e'
    exact c t
end

def rgP (i n : Nat) : Obj → Prop := fun o => o = { cls := .type "range_iterator", dict := none, data := .fields #[rawInt (i : Int), rawInt ((n - i : Nat) : Int), rawInt 1], slots := #[] }
theorem rgP_tp {i n : Nat} {o : Obj} (h : rgP i n o) : ¬ isTp o := fun ⟨_, _, _, e⟩ => by rw [h] at e; cases e
def tpIterP (l : Addr) (i : Nat) : Obj → Prop := fun o => o.cls = .type "tuple_iterator" ∧ o.data = .fields #[.ref l, .int i 0]
theorem tpIterP_tp {l : Addr} {i : Nat} {o : Obj} (h : tpIterP l i o) : ¬ isTp o := fun ⟨_, _, _, e⟩ => by rw [h.2] at e; cases e
def enumP (it : Addr) (i : Nat) : Obj → Prop := fun o => ∃ old, o = { cls := .type "enumerate", dict := none, data := .fields #[.none, .bool false, .ref it, rawInt (i : Int), .none, old], slots := #[] }
theorem enumP_tp {l : Addr} {i : Nat} {o : Obj} (h : enumP l i o) : ¬ isTp o := fun ⟨_, _, _, e⟩ => by obtain ⟨_, rfl⟩ := h; cases e

section
variable {prog : Program} {w : World} {A : Around}
theorem itrRg (hh : A.handled = none) (I : Addr) (n : Nat) (target : Expr) (ht : ∀ v, letOwnedTupleGo target (.ref I) v = pure ()) :
    Itr prog w A target I n (fun i => [(I, rgP i n)]) (fun _ => True) (fun i v _ => ∃ t, v = .int i t) where
  item := fun {g s0 ex own z s} i Q hi S _ hQ => by
    obtain ⟨o, e, rfl, _⟩ := S.at (List.mem_append.mpr (.inr (.head _)) : (I, rgP i n) ∈ own ++ [(I, rgP i n)])
    refine wpAny_pyNext_range_item e (by omega) fun h' hit' hs' => ?_
    have e2 : ((n - i : Nat) : Int) - 1 = ((n - (i + 1) : Nat) : Int) := by omega
    have e3 : (i : Int) + 1 = ((i + 1 : Nat) : Int) := by omega
    rw [e2, e3] at hit'
    have S' : St g s0 ex (own ++ [(I, rgP (i + 1) n)]) z { s with heap := h', toks := s.toks + 1 } := S.change (fun b o hb x => hs'.extBut b o hb x) hit' rfl (rgP_tp rfl)
    exact wpAny_of_eq (ht _) (hQ _ _ ⟨_, rfl⟩ S')
  done := fun {g s0 ex own z s} Q S _ hQ => by
    obtain ⟨o, e, rfl, _⟩ := S.at (List.mem_append.mpr (.inr (.head _)) : (I, rgP n n) ∈ own ++ [(I, rgP n n)])
    refine wpAny_pyNext_range_end hh e (by omega) fun h' he' => ?_
    have := S.lose (tk := s.toks) (h' := h') (fun b o hb x => he' b o hb x)
    rw [List.append_nil] at this
    exact hQ _ this
  self := fun {g s0 ex own z s} Q S hQ => by
    obtain ⟨o, e, rfl, _⟩ := S.at (List.mem_append.mpr (.inr (.head _)) : (I, rgP 0 n) ∈ own ++ [(I, rgP 0 n)])
    exact wpAny_pyIter_rangeiter e hQ

theorem itrTp (hh : A.handled = none) (I l : Addr) (vs : List Value) (target : Expr) (ht : ∀ v, letOwnedTupleGo target (.ref I) v = pure ()) :
    Itr prog w A target I vs.length (fun i => [(I, tpIterP l i)]) (fun h => IsTup h l vs.toArray) (fun i v _ => vs[i]? = some v) where
  item := fun {g s0 ex own z s} i Q hi S hl hQ => by
    obtain ⟨o, e, q, _⟩ := S.at (List.mem_append.mpr (.inr (.head _)) : (I, tpIterP l i) ∈ own ++ [(I, tpIterP l i)])
    have hv : vs[i]? = some vs[i] := List.getElem?_eq_getElem hi
    refine wpAny_pyNext_tuple_item ⟨o, e, q⟩ hl (x := vs[i]) (by simp [hi]) fun h' hit' hs' => ?_
    obtain ⟨o', e', q'⟩ := hit'
    have S' : St g s0 ex (own ++ [(I, tpIterP l (i + 1))]) z { s with heap := h' } := S.change (tk := s.toks) (fun b o hb x => hs'.extBut b o hb x) e' q' (tpIterP_tp q')
    exact wpAny_of_eq (ht _) (hQ _ _ hv S')
  done := fun {g s0 ex own z s} Q S hl hQ => by
    obtain ⟨o, e, q, _⟩ := S.at (List.mem_append.mpr (.inr (.head _)) : (I, tpIterP l vs.length) ∈ own ++ [(I, tpIterP l vs.length)])
    refine wpAny_pyNext_tuple_end hh ⟨o, e, q⟩ hl (by simp) fun h' he' => ?_
    have := S.lose (tk := s.toks) (h' := h') (fun b o hb x => he' b o hb x)
    rw [List.append_nil] at this
    exact hQ _ this
  self := fun {g s0 ex own z s} Q S hQ => by
    obtain ⟨o, e, q, _⟩ := S.at (List.mem_append.mpr (.inr (.head _)) : (I, tpIterP l 0) ∈ own ++ [(I, tpIterP l 0)])
    exact wpAny_pyIter_tupleiter ⟨o, e, q⟩ hQ

theorem itrEn (hh : A.handled = none) (I it l : Addr) (vs : List Value) (elts : List Expr) (x1) (pos : Pos) :
    Itr prog w A (.Tuple elts x1 pos) I vs.length (fun i => [(I, enumP it i), (it, lsIterP l i)]) (fun h => h.IsList l vs.toArray) (fun i v h => ∃ T t x, v = .ref T ∧ IsTup h T [.int (i : Int) t, x].toArray ∧ vs[i]? = some x) where
  item := fun {g s0 ex own z s} i Q hi S hl hQ => by
    have m1 : (I, enumP it i) ∈ own ++ [(I, enumP it i), (it, lsIterP l i)] := List.mem_append.mpr (.inr (.head _))
    have m2 : (it, lsIterP l i) ∈ own ++ [(I, enumP it i), (it, lsIterP l i)] := List.mem_append.mpr (.inr (.tail _ (.head _)))
    obtain ⟨o1, e1, ⟨old, rfl⟩, _⟩ := S.at m1
    obtain ⟨o2, e2, q2, _⟩ := S.at m2
    have hnd := S.nd
    rw [List.map_append, List.nodup_append] at hnd
    obtain ⟨n1, n2, n3⟩ := hnd
    have hne : I ≠ it := by
      rintro rfl
      simp at n2
    have hv : vs[i]? = some vs[i] := List.getElem?_eq_getElem hi
    refine wpAny_pyNext_enum_item e1 ⟨o2, e2, q2⟩ hl (x := vs[i]) (by simp [hi]) hne fun h' ho hit' hT hsz hk => ?_
    refine wpAny_letOwnedTupleGo_enum ho fun h'' he'' hs'' => ?_
    have hT' : h''.get? s.heap.objs.size = some { cls := .type "tuple", data := .seq #[.int i s.toks, vs[i]] } := hs''.extBut _ _ (Nat.ne_of_gt (Heap.lt_size e1)) hT
    obtain ⟨o3, e3, q3⟩ := hit'
    have e3' := hs''.extBut _ _ (Ne.symm hne) e3
    have key : ∀ b o, b ≠ I → b ≠ it → s.heap.get? b = some o → h''.get? b = some o := fun b o b1 b2 e => hs''.extBut b o b1 (hk b o b1 b2 e)
    have e3i : (i : Int) + 1 = ((i + 1 : Nat) : Int) := by omega
    rw [e3i] at he''
    have S' : St g s0 ex (own ++ [(I, enumP it (i + 1)), (it, lsIterP l (i + 1))]) z { s with heap := h'', toks := s.toks + 1 } := by
      refine S.remap (by simp) ?_ ?_
      · intro p hp
        rcases List.mem_append.mp hp with hp | hp
        · obtain ⟨⟨o, e, r⟩, _⟩ := S.hold p (List.mem_append.mpr (.inl hp))
          exact ⟨o, key _ _ (n3 p.1 (List.mem_map.mpr ⟨p, hp, rfl⟩) I (.head _)) (n3 p.1 (List.mem_map.mpr ⟨p, hp, rfl⟩) it (.tail _ (.head _))) e, r⟩
        · rcases List.mem_cons.mp hp with rfl | hp
          · exact ⟨_, he'', ⟨_, rfl⟩, enumP_tp (l := it) (i := i + 1) ⟨_, rfl⟩⟩
          · rcases List.mem_cons.mp hp with rfl | hp
            · exact ⟨o3, e3', q3, lsIterP_tp q3⟩
            · cases hp
      · intro b o hb e
        simp only [List.map_append, List.map_cons, List.map_nil, List.mem_append, List.mem_cons, List.not_mem_nil, or_false, not_or] at hb
        exact key b o hb.2.1 hb.2.2 e
    exact hQ _ _ ⟨_, _, _, rfl, ⟨_, hT', rfl, 0, rfl⟩, hv⟩ S'
  done := fun {g s0 ex own z s} Q S hl hQ => by
    have m1 : (I, enumP it vs.length) ∈ own ++ [(I, enumP it vs.length), (it, lsIterP l vs.length)] := List.mem_append.mpr (.inr (.head _))
    have m2 : (it, lsIterP l vs.length) ∈ own ++ [(I, enumP it vs.length), (it, lsIterP l vs.length)] := List.mem_append.mpr (.inr (.tail _ (.head _)))
    obtain ⟨o1, e1, ⟨old, rfl⟩, _⟩ := S.at m1
    obtain ⟨o2, e2, q2, _⟩ := S.at m2
    refine wpAny_pyNext_enum_end hh e1 ⟨o2, e2, q2⟩ hl (by simp) fun h' he' => ?_
    have S1 : St g s0 ex ((own ++ [(I, enumP it vs.length)]) ++ (it, lsIterP l vs.length) :: []) z s := by simpa using S
    have S2 := S1.lose (tk := s.toks) (h' := h') (fun b o hb x => he' b o hb x)
    rw [List.append_nil] at S2
    exact hQ _ (S2.mono (fun p hp => List.mem_append.mpr (.inl hp)) (by have := S2.nd; rw [List.map_append, List.nodup_append] at this; exact this.1))
  self := fun {g s0 ex own z s} Q S hQ => by
    have m1 : (I, enumP it 0) ∈ own ++ [(I, enumP it 0), (it, lsIterP l 0)] := List.mem_append.mpr (.inr (.head _))
    obtain ⟨o1, e1, ⟨old, rfl⟩, _⟩ := S.at m1
    exact wpAny_pyIter_enum e1 hQ

section
variable {g : Heap} {s0 : Shared} {ex : List Addr} {own : List (Addr × (Obj → Prop))} {z : Heap} {s : Shared}
theorem iterTp {l : Addr} {vs : List Value} {Q : Value → Shared → Prop} (S : St g s0 ex own z s) (hl : IsTup s.heap l vs.toArray)
    (h : ∀ I s', St g s0 ex (own ++ [(I, tpIterP l 0)]) z s' → KeepsX [] s s' → Q (.ref I) s') : wpAny (model prog w) A (pyIter (.ref l)) Q NoE s :=
  wpAny_pyIter_tuple hl (h _ _ (S.push _ ⟨rfl, rfl⟩ (tpIterP_tp ⟨rfl, rfl⟩)).toEnd ⟨⟨_, s.toks, rfl⟩, fun b o _ e => Heap.get?_push_of_some _ e⟩)

/-- range(n), and its iterator -/
theorem iterRg {n : Nat} {t : Tok} {Q : Value → Shared → Prop} (hn : n ≤ 1000) (S : St g s0 ex own z s)
    (h : ∀ I s', St g s0 ex (own ++ [(I, rgP 0 n)]) z s' → Q (.ref I) s') : wpAny (model prog w) A (call (.type "range") [.int (n : Int) t]) (fun x s₂ => wpAny (model prog w) A (pyIter x) Q NoE s₂) NoE s := by
  refine call_range_1 ?_
  have S1 := S.grow (tk := s.toks + 1 + 1) (h' := s.heap.push { cls := .type "range", data := .fields #[.int 0 s.toks, .int n t, .int 1 (s.toks + 1)] }) fun b o e => Heap.get?_push_of_some _ e
  refine wpAny_pyIter_range (Heap.get?_push_size _ rfl) (small_one (by omega) (by omega) (by omega) (by omega)) ?_
  have e : Builtin.Range.rangeSize 0 n 1 = ((n - 0 : Nat) : Int) := by
    simp [Builtin.Range.rangeSize]; omega
  rw [e]
  exact h _ _ (St.push (P := rgP 0 n) S1 _ rfl (rgP_tp (i := 0) (n := n) rfl)).toEnd

/-- enumerate(list), and its iterator -/
theorem iterEn {l : Addr} {vs : List Value} {Q : Value → Shared → Prop} (S : St g s0 ex own z s) (hl : s.heap.IsList l vs.toArray)
    (h : ∀ I it s', St g s0 ex (own ++ [(I, enumP it 0), (it, lsIterP l 0)]) z s' → Q (.ref I) s') : wpAny (model prog w) A (call (.type "enumerate") [.ref l]) (fun x s₂ => wpAny (model prog w) A (pyIter x) Q NoE s₂) NoE s := by
  refine call_enumerate_list hl fun h' he hi hsz hk => wpAny_pyIter_enum he ?_
  refine h _ s.heap.objs.size _ ?_
  obtain ⟨o2, e2, q2⟩ := hi
  have S1 : St g s0 ex own z { s with heap := h' } := S.grow (tk := s.toks) hk
  have fresh : ∀ a, s.heap.objs.size ≤ a → s0.heap.get? a = none ∨ a ∈ ex := fun a ha => by
    by_cases hx : a ∈ ex
    · exact .inr hx
    · refine .inl ?_
      cases e : s0.heap.get? a with
      | none => rfl
      | some o => exact absurd (Heap.lt_size (S.keep a o hx e)) (Nat.not_lt.mpr ha)
  have hlt : ∀ p ∈ own, p.1 < s.heap.objs.size := fun p hp => by obtain ⟨⟨o, e, _⟩, _⟩ := S.hold p hp; exact Heap.lt_size e
  refine ⟨S1.alike, S1.sub, S1.keep, fun p hp => ?_, ?_, S1.tu⟩
  · rcases List.mem_append.mp hp with hp | hp
    · exact S1.hold p hp
    · rcases List.mem_cons.mp hp with rfl | hp
      · exact ⟨⟨_, he, ⟨_, rfl⟩, enumP_tp (l := s.heap.objs.size) (i := 0) ⟨_, rfl⟩⟩, (fresh _ (Nat.le_succ _)).symm⟩
      · rcases List.mem_cons.mp hp with rfl | hp
        · exact ⟨⟨o2, e2, q2, lsIterP_tp q2⟩, (fresh _ (Nat.le_refl _)).symm⟩
        · cases hp
  · rw [List.map_append, List.nodup_append]
    refine ⟨S1.nd, by simp, fun x hx y hy => ?_⟩
    obtain ⟨p, hp, rfl⟩ := List.mem_map.mp hx
    have := hlt p hp
    simp only [List.map_cons, List.map_nil, List.mem_cons, List.not_mem_nil, or_false] at hy
    rcases hy with rfl | rfl
    · exact Nat.ne_of_lt (Nat.lt_succ_of_lt this)
    · exact Nat.ne_of_lt this
end
end

/-! lists of frames; a fresh list as an answer; held_data -/
def FrsAt (h : Heap) (fs : List Fm) (vs : List Value) : Prop := Paired (FrAt h) fs vs
theorem FrsAt.up {h h' : Heap} {fs : List Fm} {vs : List Value} (x : FrsAt h fs vs) (t : TupSub h h') : FrsAt h' fs vs := Paired.imp x fun y => FrAt.up y t
theorem FrsAt.snoc {h : Heap} {fs : List Fm} {vs : List Value} {f : Fm} {v : Value} (x : FrsAt h fs vs) (y : FrAt h f v) : FrsAt h (fs ++ [f]) (vs ++ [v]) := paired_append x (.cons y .nil)
theorem FrsAt.ref {h : Heap} {fs : List Fm} {vs : List Value} (x : FrsAt h fs vs) : ∀ v ∈ vs, ∃ a, v = .ref a := by
  intro v hv
  obtain ⟨i, hi⟩ := List.mem_iff_getElem?.mp hv
  obtain ⟨f, _, a, _, e, _⟩ := paired_get' x hi
  exact ⟨a, e⟩
def kindF : Fm → PySem.Str
  | .str x :: _ => x
  | _ => ""
def Hd (f : Fm) : Prop := ∃ x r, f = .str x :: r
theorem Hd.eq {f : Fm} (h : Hd f) : ∃ r, f = .str (kindF f) :: r := by obtain ⟨x, r, rfl⟩ := h; exact ⟨r, rfl⟩
def wayF (f : Fm) : PySem.Str := wayOf (kindF f)
/-- a fresh list -/
def NewL (s s' : Shared) (v : Value) (vs : List Value) : Prop := KeepsX [] s s' ∧ ∃ D, v = .ref D ∧ s.heap.get? D = none ∧ ∃ o, s'.heap.get? D = some o ∧ plainP vs o

section
variable {g : Heap} {s0 : Shared} {ex : List Addr} {own : List (Addr × (Obj → Prop))} {z : Heap} {s s' : Shared} {prog : Program} {w : World} {A : Around}
theorem St.fresh {D : Addr} {P : Obj → Prop} (S : St g s0 ex own z s) (K : KeepsX [] s s') (hD : s.heap.get? D = none) (ho : ∃ o, s'.heap.get? D = some o ∧ P o ∧ ¬ isTp o) : St g s0 ex ((D, P) :: own) z s' := by
  have S' := S.keeps K
  refine ⟨S'.alike, S'.sub, S'.keep, fun p hp => ?_, ?_, S'.tu⟩
  · rcases List.mem_cons.mp hp with rfl | hp
    · refine ⟨ho, ?_⟩
      by_cases hx : D ∈ ex
      · exact .inl hx
      · refine .inr ?_
        cases e : s0.heap.get? D with
        | none => rfl
        | some o => rw [S.keep D o hx e] at hD; cases hD
    · exact S'.hold p hp
  · rw [List.map_cons, List.nodup_cons]
    refine ⟨fun hm => ?_, S'.nd⟩
    obtain ⟨p, hp, e⟩ := List.mem_map.mp hm
    obtain ⟨⟨o, eo, _⟩, _⟩ := S.hold p hp
    rw [e, hD] at eo
    cases eo
theorem St.newL {v : Value} {vs : List Value} (S : St g s0 ex own z s) (h : NewL s s' v vs) : ∃ D, v = .ref D ∧ St g s0 ex ((D, plainP vs) :: own) z s' := by
  obtain ⟨K, D, rfl, hD, o, eo, ho⟩ := h
  exact ⟨D, rfl, S.fresh K hD ⟨o, eo, ho, plainP_tp ho⟩⟩
theorem St.giveL {D : Addr} {vs : List Value} (S : St g s0 [] own z s) (hm : (D, plainP vs) ∈ own) : NewL s0 s (.ref D) vs := by
  obtain ⟨⟨o, eo, ho, _⟩, q⟩ := S.hold _ hm
  exact ⟨S.done, D, rfl, q.resolve_left (by simp), o, eo, ho⟩
theorem St.isList0 {l : Addr} {vs : List Value} (S : St g s0 [] own z s) (hl : s0.heap.IsList l vs.toArray) : s.heap.IsList l vs.toArray := let ⟨o, e, r⟩ := hl; ⟨o, S.keep _ _ (by simp) e, r⟩

theorem ifs0 {cenv : Env} {Q : Bool → Shared → Prop} (h : Q true s) :
    wpAny (model prog w) A (forIn ([] : List Expr) true fun c r => if r = true then do let ok ← isTrue c cenv (eval c cenv); pure (ForInStep.yield ok) else pure (ForInStep.yield r)) Q NoE s := wpAny_pure h
theorem ifs1 {c : Expr} {cenv : Env} {Q : Bool → Shared → Prop} (h : wpAny (model prog w) A (isTrue c cenv (eval c cenv)) Q NoE s) :
    wpAny (model prog w) A (forIn [c] true fun c r => if r = true then do let ok ← isTrue c cenv (eval c cenv); pure (ForInStep.yield ok) else pure (ForInStep.yield r)) Q NoE s := by
  rw [List.forIn_cons]
  refine wpAny_bind ?_
  rw [if_pos rfl]
  refine wpAny_bind (wpAny_mono h (fun ok s₁ h₁ => ?_) fun _ _ e => e)
  exact wpAny_pure (wpAny_pure h₁)
end

theorem filter_take_succ {α : Type} {p : α → Bool} {l : List α} {i : Nat} {a : α} (h : l[i]? = some a) : (l.take (i + 1)).filter p = (l.take i).filter p ++ (if p a then [a] else []) := by
  rw [List.take_add_one, h, List.filter_append]
  cases e : p a <;> simp [e]
theorem paired_map_refl {α β : Type} {F : α → β → Prop} {l : List α} {r : List β} {x : α} {i : Nat} {v : β} (h : Paired F l r) (hv : r[i]? = some v) (hi : l[i]? = some x) : F x v := by
  obtain ⟨a, ha, hF⟩ := paired_get' h hv
  rw [hi] at ha
  cases ha
  exact hF

section
variable {g : Heap} {s : Shared} {prog : Program} {w : World} {A : Around} {a aw l : Addr} {mg mb : PySem.Str → Option Value}
theorem held_spec {k : Nat} {fs : List Fm} {vs : List Value} (hg : GSub g s) (N : Names g mg mb) (W : WayTabs g mg) (hf : FnN g a 9) (hfw : FnN g aw 5) (hw : mg "way_of" = some (.ref aw)) (R : Room A (k + 2))
    (hl : s.heap.IsList l vs.toArray) (hv : FrsAt s.heap fs vs) (hh : ∀ f ∈ fs, Hd f) (hz : vs.length ≤ 1000) :
    wpAny (model prog w) A (call (.ref a) [.ref l]) (fun v s' => ∃ vs', NewL s s' v vs' ∧ FrsAt s'.heap (fs.filter fun f => wayF f == "holder") vs') NoE s := by
  refine callP (own := []) (ex := []) (binds := [("lost", .ref l)]) hg N hf R (fun _ _ _ => by simp) (fun _ hp => nomatch hp) List.nodup_nil (fun _ _ _ => by rfl) (by rfl) ?_
  intro cd L s₁ R₁ S
  show wpAny _ _ (execs (bodyAt 9) _) _ _ _
  refine wpAny_execs_cons (wpAny_Return_some ?_)
  have hlen := hv.length
  refine compE (n := vs.length) (its := fun I i => [(I, lsIterP l i)]) (V := fun i v _ => vs[i]? = some v) (H := fun h => h.IsList l vs.toArray) (cl := [])
    (J := fun i ys own' z' => own' = [] ∧ z' = s.heap ∧ FrsAt s.heap ((fs.take i).filter fun f => wayF f == "holder") ys ∧ ys.length ≤ i) hz rfl S ?_ (fun _ _ _ _ h => h.2.2.2) ?_ ?_ ?_
  · rintro s₁ Q' hQ rfl
    walk_at "qs"
    refine iterLs ‹_› (St.isList0 ‹_› hl) fun I s₂ S₂ => ?_
    exact hQ I [] _ s₂ (itrLs R₁.handled I l vs _ (.inl fun _ => rfl)) S₂ ⟨rfl, rfl, .nil, Nat.le_refl _⟩
  · rintro i ys own' z' s' ⟨rfl, rfl, _⟩ D C mC tl S'
    exact S'.isList0 hl
  · rintro i v ys own' z' s₁ tl C D mC hi ⟨rfl, rfl, hp, hle⟩ hvi S'
    obtain ⟨f, hfi, hfv⟩ := paired_get' hv hvi
    obtain ⟨r, hr⟩ := (hh f (List.mem_of_getElem? hfi)).eq
    refine wpAny_assign_Name ?_
    walk_at "q"
    refine ifs1 ?_
    walk_at "qs"
    refine callG ‹_› N hw hfw ?_
    walk_at "qs"
    refine frItem ‹_› hfv (i := 0) (k := .str (kindF f)) (by rw [hr]; rfl) (by decide) ?_
    intro x0 hx0
    obtain ⟨tx, rfl⟩ := itemStr hx0
    walk_at "qs"
    refine ⟨⟨_, _, ‹_›⟩, wpAny_mono (way_spec (St.gkeep ‹_›) N W hfw R₁) (fun v' s₃ h₃ => ?_) fun _ _ e => e⟩
    obtain ⟨K₃, t₃, rfl⟩ := h₃
    have S₃ := St.keeps ‹St g s [] _ _ _› K₃
    walk_at "qs"
    have e := filter_take_succ (p := fun f => wayF f == "holder") hfi
    cases hb : (wayOf (kindF f) == ("holder" : PySem.Str)) with
    | true =>
      simp only [if_true]
      walk_at "qs"
      refine ⟨_, [], _, ‹_›, rfl, rfl, ?_, by simpa using hle⟩
      rw [e, if_pos (show (wayF f == "holder") = true from hb)]
      exact hp.snoc hfv
    | false =>
      simp only [Bool.false_eq_true, if_false]
      refine ⟨_, [], _, ‹_›, rfl, rfl, ?_, by omega⟩
      rw [e, if_neg (neT (show (wayF f == "holder") = false from hb)), List.append_nil]
      exact hp
  · rintro ys own' z' s' D ⟨rfl, rfl, hp, _⟩ S'
    refine ⟨ys, S'.giveL (.tail _ (.head _)), FrsAt.up ?_ S'.tu⟩
    rw [← hlen, List.take_length] at hp
    exact hp
end

/-! calls of defs with one cell -/
section
variable {g : Heap} {s : Shared} {prog : Program} {w : World} {A : Around} {a : Addr} {name : PySem.Str} {params : Arguments} {body : List Stmt} {scope : Scope} {vs : List Value} {mg mb : PySem.Str → Option Value}
theorem callC {k : Nat} {cn : PySem.Str} {binds : List (PySem.Str × Value)} {Q : Value → Shared → Prop} (hg : GSub g s) (N : Names g mg mb) (hf : FnIs g a name params body scope) (R : Room A (k + 1))
    (hbind : ∀ pm cd doc, bindArgs (docDef name params body scope pm cd doc) ⟨vs, []⟩ = pure binds)
    (hcells : ∀ L, cellsFrom (L + 1) scope.names [] = [(cn, L + 1)])
    (hloc : ∀ L, ∀ x ∈ binds, scope.names.lookup x.1 = some .local ∨ (scope.names.lookup x.1 = some .cell ∧ ((cellsFrom (L + 1) scope.names []).lookup x.1).isSome = true))
    (h : ∀ cd L s₁, Room (A.deeper (envOfC name scope L a cd)) k → St g s [] [(L, nsP (bindL (fun x => scope.names.lookup x) binds fun _ => none)), (L + 1, cellP (bindC (fun x => scope.names.lookup x) binds (fun _ => none) cn))] s.heap s₁ →
      wpAny (model prog w) (A.deeper (envOfC name scope L a cd)) (execs body (envOfC name scope L a cd)) (fun fl s' => Q (retv fl) s') NoE s₁)
    (hco : scope.isCoroutine = false := by rfl) (hgen : scope.isGenerator = false := by rfl) (hk : scope.kind = .function := by rfl) :
    wpAny (model prog w) A (call (.ref a) vs) Q NoE s := by
  obtain ⟨o, pm, cd, doc, ho, hd, hc⟩ := hf
  refine wpAny_call (call_cells_ret (by have := R.depth; omega) (hg _ _ ho) hd (N.nolimit.keeps hg) (hc.keeps hg) (hbind pm cd doc) (hloc _) (fun h₁ tk F X => ?_) hco hgen hk)
  have fresh : ∀ b, s.heap.objs.size ≤ b → s.heap.get? b = none := fun b hb => by
    cases e : s.heap.get? b with
    | none => rfl
    | some o' => exact absurd (Heap.lt_size e) (Nat.not_lt.mpr hb)
  obtain ⟨oL, eL, qL⟩ := nsOf F.ns
  have hX := X.cell cn (s.heap.objs.size + 1) (by rw [hcells]; simp)
  obtain ⟨oC, eC, qC⟩ := hX
  have e1 : Room (A.deeper (envOfC name scope s.heap.objs.size a cd)) k := ⟨R.handled, by have := R.depth; show A.depth + 1 + k < _; omega, by have := R.units; show A.units + 3 + 4 * k + 20 < _; omega⟩
  refine wpAny_mono (h cd _ _ e1 ⟨⟨_, _, rfl⟩, fun b o e => ⟨hg _ _ e, by simp⟩, fun b o _ e => F.keep b o e, ?_, ?_, fun b o e _ => F.keep b o e⟩) (fun fl s' q => by cases fl <;> exact q) fun _ _ e => e
  · intro p hp
    rcases List.mem_cons.mp hp with rfl | hp
    · exact ⟨⟨oL, eL, qL, nsP_tp qL⟩, .inr (fresh _ (Nat.le_refl _))⟩
    · rw [List.mem_singleton.mp hp]
      exact ⟨⟨oC, eC, qC, cellP_tp qC⟩, .inr (fresh _ (Nat.le_succ _))⟩
  · simp
end

/-! dicts whose keys are tuples -/
abbrev tkd (prog : Program) (w : World) := tupleKind (kyKind prog w)
abbrev DL := List (Fm × Addr × Value)
def dictP (prog : Program) (w : World) (xs : DL) : Obj → Prop := fun o => o.ExactDict ∧ ∃ es ep, o.data = .dict es ep ∧ es.toList = xs.map (entryOfKey (tkd prog w)) ∧ (xs.map (·.1)).Nodup
theorem dictP_tp {prog : Program} {w : World} {xs : DL} {o : Obj} (h : dictP prog w xs o) : ¬ isTp o := fun ⟨_, _, _, e⟩ => by obtain ⟨_, _, _, e', _⟩ := h; rw [e'] at e; cases e
def KeysAt (prog : Program) (w : World) (h : Heap) (xs : DL) : Prop := ∀ x ∈ xs, IsTupleKey (kyKind prog w) h x.1 x.2.1
theorem IsTupleKey.tup {prog : Program} {w : World} {h h' : Heap} {k : Fm} {a : Addr} (x : IsTupleKey (kyKind prog w) h k a) (t : TupSub h h') : IsTupleKey (kyKind prog w) h' k a :=
  let ⟨o, its, n, e, c, d, i⟩ := x; ⟨o, its, n, t _ _ e ⟨c, _, _, d⟩, c, d, i⟩
theorem KeysAt.up {prog : Program} {w : World} {h h' : Heap} {xs : DL} (x : KeysAt prog w h xs) (t : TupSub h h') : KeysAt prog w h' xs := fun y hy => IsTupleKey.tup (x y hy) t
theorem KeysAt.stored {prog : Program} {w : World} {h : Heap} {xs : DL} {f : Fm} {a : Addr} {v : Value} (x : KeysAt prog w h xs) (hk : IsTupleKey (kyKind prog w) h f a) : KeysAt prog w h (storedH xs f a v) := by
  unfold storedH
  split
  · intro y hy
    obtain ⟨p, hp, rfl⟩ := List.mem_map.mp hy
    unfold putAt
    split <;> exact x p hp
  · intro y hy
    rcases List.mem_append.mp hy with hy | hy
    · exact x y hy
    · rw [List.mem_singleton.mp hy]; exact hk

theorem items_key {prog : Program} {w : World} {f : Fm} {vs : List Value} (h : ItemsO f vs) (hn : Ky.opq ∉ f) : ItemsAre (kyKind prog w) f vs := by
  induction h with
  | nil => exact .nil
  | cons h1 _ ih =>
    rw [List.mem_cons, not_or] at hn
    exact .cons (h1.resolve_left fun e => hn.1 e.symm) (ih hn.2)
theorem FrAt.key {prog : Program} {w : World} {h : Heap} {f : Fm} {v : Value} (x : FrAt h f v) (hn : Ky.opq ∉ f) : ∃ a, v = .ref a ∧ IsTupleKey (kyKind prog w) h f a :=
  let ⟨a, vs, e, ⟨o, eo, c, n, d⟩, i⟩ := x; ⟨a, e, o, _, n, eo, c, d, by simpa using items_key i hn⟩

section
variable {g : Heap} {s0 : Shared} {ex : List Addr} {own : List (Addr × (Obj → Prop))} {z : Heap} {s : Shared} {prog : Program} {w : World} {A : Around} {env : Env} {d a : Addr} {f : Fm} {xs : DL} {v : Value}
theorem St.dict (S : St g s0 ex own z s) (hm : (d, dictP prog w xs) ∈ own) (hk : KeysAt prog w z xs) : s.heap.DictOfH (tkd prog w) d xs :=
  let ⟨o, e, ⟨c, es, ep, hd, he, hn⟩, _⟩ := S.at hm; ⟨o, es, ep, e, c, hd, he, fun x hx => IsTupleKey.tup (hk x hx) S.tu, hn⟩

/-- {} -/
theorem newD {pos : Pos} {Q : Value → Shared → Prop} {mg mb : PySem.Str → Option Value} (S : St g s0 ex own z s) (N : Names g mg mb)
    (h : ∀ d s₁, (d == sysModules) = false → St g s0 ex ((d, dictP prog w []) :: own) z s₁ → KeepsX [] s s₁ → Q (.ref d) s₁) : wpAny (model prog w) A (eval (.Dict [] [] pos) env) Q NoE s := by
  refine wpAny_Dict_empty ?_
  have hd : dictP prog w [] { cls := .type "dict", data := .dict #[] } := ⟨⟨rfl, rfl, rfl⟩, #[], 0, rfl, rfl, List.nodup_nil⟩
  refine h _ _ ?_ (S.push _ hd (dictP_tp hd)) ⟨⟨_, s.toks, rfl⟩, fun b o _ e => Heap.get?_push_of_some _ e⟩
  obtain ⟨o, _, _, e, _⟩ := N.gl
  have h3 : mainGlobals < s.heap.objs.size := Heap.lt_size (S.gkeep _ _ e)
  have h1 : sysModules < mainGlobals := by decide
  exact beq_eq_false_iff_ne.mpr (Nat.ne_of_gt (Nat.lt_trans h1 h3))

/-- key in dict -/
theorem inD {Q : Value → Shared → Prop} (hu : A.units + 1 < cLine) (hd : (d == sysModules) = false) (S : St g s0 ex own z s) (hm : (d, dictP prog w xs) ∈ own) (hk : KeysAt prog w z xs) (hf : FrAt s.heap f v) (hn : Ky.opq ∉ f)
    (h : ∀ s₁, St g s0 ex own z s₁ → KeepsX [] s s₁ → Q (.bool (atKey xs f).isSome) s₁) : wpAny (model prog w) A (compareOp .In v (.ref d)) Q NoE s := by
  obtain ⟨a, rfl, ha⟩ := hf.key (prog := prog) (w := w) hn
  exact wpAny_in_heap (knd := tkd prog w) hu ha hd (S.dict hm hk) (h _ (S.toks _) ⟨⟨_, _, rfl⟩, fun b o _ e => e⟩)
/-- dict[key] -/
theorem getD {value slice : Expr} {p : Addr × Value} {Q : Value → Shared → Prop} (hu : A.units + 1 < cLine) (S : St g s0 ex own z s) (hm : (d, dictP prog w xs) ∈ own) (hk : KeysAt prog w z xs) (hf : FrAt s.heap f v) (hn : Ky.opq ∉ f) (hp : atKey xs f = some p)
    (h : ∀ s₁, St g s0 ex own z s₁ → KeepsX [] s s₁ → Q p.2 s₁) (hs : ∀ a, subscripted slice false (.ref d) (.ref a) = operate [.ref d, .ref a] (getItem (.ref d) (.ref a)) := by intro _; with_unfolding_all rfl)
    (hg : ∀ r, letTemporaryGo value (.ref d) r = pure () := by intro _; with_unfolding_all rfl) :
    wpAny (model prog w) A (subscriptTail value slice (.ref d) v) Q NoE s := by
  obtain ⟨a, rfl, ha⟩ := hf.key (prog := prog) (w := w) hn
  have hD := S.dict hm hk
  exact subscriptTail_builtin hD.typeIs slot_dict_getitem.lookup (wpAny_getItem_heap (knd := tkd prog w) hu ha hD hp (h _ (S.toks _) ⟨⟨_, _, rfl⟩, fun b o _ e => e⟩)) (hs a) hg
/-- dict.get(key, default) -/
theorem getD2 {u : Value} {Q : Value → Shared → Prop} (hu : A.units + 1 < cLine) (hd : (d == sysModules) = false) (S : St g s0 ex own z s) (hm : (d, dictP prog w xs) ∈ own) (hk : KeysAt prog w z xs) (hf : FrAt s.heap f v) (hn : Ky.opq ∉ f)
    (h : ∀ s₁, St g s0 ex own z s₁ → KeepsX [] s s₁ → Q (((atKey xs f).map (·.2)).getD u) s₁) : wpAny (model prog w) A (call (.builtin "dict.get") [.ref d, v, u]) Q NoE s := by
  obtain ⟨a, rfl, ha⟩ := hf.key (prog := prog) (w := w) hn
  have hD := S.dict hm hk
  exact call_meetsIn PySem.F.slot_dict_get hD.typeIs PySem.F.entry_dict_get (PySem.F.args_dict_get_3 _ _ _) (meetsH_dict_get_default (tkd prog w) d a hd u) ⟨hu, f, xs, ha, hD, h _ (S.toks _) ⟨⟨_, _, rfl⟩, fun b o _ e => e⟩⟩
/-- dict[key] = u -/
theorem setD {pre post : List (Addr × (Obj → Prop))} {u : Value} {Q : Unit → Shared → Prop} (hu : A.units + 1 < cLine) (S : St g s0 ex (pre ++ (d, dictP prog w xs) :: post) z s) (hk : KeysAt prog w z xs) (hf : FrAt s.heap f v) (hn : Ky.opq ∉ f) (hz : xs.length ≤ 1000)
    (h : ∀ a s₁, v = .ref a → St g s0 ex (pre ++ (d, dictP prog w (storedH xs f a u)) :: post) s.heap s₁ → KeysAt prog w s.heap (storedH xs f a u) → Q () s₁) : wpAny (model prog w) A (setItem (.ref d) v u) Q NoE s := by
  obtain ⟨a, rfl, ha⟩ := hf.key (prog := prog) (w := w) hn
  have hm : (d, dictP prog w xs) ∈ pre ++ (d, dictP prog w xs) :: post := List.mem_append.mpr (.inr (.head _))
  refine wpAny_setItem_heap (knd := tkd prog w) hu ha (S.dict hm hk) (fun h' hD hs => ?_) (by rw [sizeLine_eq]; omega)
  obtain ⟨o, es, ep, eo, c, hd, he, _, hnd⟩ := hD
  have ho : dictP prog w (storedH xs f a u) o := ⟨c, es, ep, hd, he, hnd⟩
  exact h a _ rfl (S.up.change (tk := s.toks + (tkd prog w).draws f) (fun b o hb e => hs.extBut b o hb e) eo ho (dictP_tp ho)) (KeysAt.stored (hk.up S.tu) ha)
end

/-! append -/
section
variable {g : Heap} {s0 : Shared} {ex : List Addr} {own : List (Addr × (Obj → Prop))} {z : Heap} {s : Shared} {prog : Program} {w : World} {A : Around} {env : Env}
theorem appS {o elt : Expr} {apos pos spos : Pos} {Q : Flow → Shared → Prop}
    (h : wpAny (model prog w) A (eval o env) (fun ov s₁ => ∃ D vs, ov = .ref D ∧ s₁.heap.PlainList D vs ∧
      wpAny (model prog w) A (eval elt env) (fun y s₂ => wpAny (model prog w) A (call (.builtin "list.append") [.ref D, y]) (fun _ => Q .next) NoE s₂) NoE s₁) NoE s)
    (hbase : attributeBase o "append" env (eval o env) = eval o env := by rfl)
    (hfew : ((backTo pos (starEach [elt] env)).all (fun x => !x.1) && (backToKw pos (keywordEach [] env)).all (fun x => x.1.isSome) && decide (([elt] : List Expr).length + ([] : List Keyword).length + (if ([] : List Keyword).isEmpty then 0 else 1) < 30)) = true := by rfl)
    (hline : (apos.endLine == pos.line) = true := by rfl) (htrees : backTo pos (starEach [elt] env) = [(false, eval elt env)] := by rfl) (hi : interactive env = false := by rfl) (hsw : swapsWith (.Call (.Attribute o "append" apos) [elt] [] pos) none spos.line env = pure false := by rfl) :
    wpAny (model prog w) A (exec (.Expr (.Call (.Attribute o "append" apos) [elt] [] pos) spos) env) Q NoE s := by
  refine wpAny_Expr_any (wpAny_Call_append hbase hfew hline htrees (wpAny_mono h (fun ov s₁ h₁ => ?_) fun _ _ e => e)) hi hsw
  obtain ⟨D, vs, rfl, ⟨n, hp⟩, hc⟩ := h₁
  exact ⟨D, vs, rfl, ⟨_, n, hp, rfl, rfl, rfl⟩, hc⟩
theorem appC {pre post : List (Addr × (Obj → Prop))} {l : Addr} {vs : List Value} {y : Value} {Q : Value → Shared → Prop} (S : St g s0 ex (pre ++ (l, plainP vs) :: post) z s) (hz : vs.length ≤ 1000)
    (h : ∀ s₁, St g s0 ex (pre ++ (l, plainP (vs ++ [y])) :: post) z s₁ → Q .none s₁) : wpAny (model prog w) A (call (.builtin "list.append") [.ref l, y]) Q NoE s := by
  have hm : (l, plainP vs) ∈ pre ++ (l, plainP vs) :: post := List.mem_append.mpr (.inr (.head _))
  refine wpAny_list_append_plain (hsz := by rw [List.size_toArray, sizeLine_eq]; omega) (S.plain hm) fun h' hl hs => ?_
  obtain ⟨n, en⟩ := hl
  have e2 : vs.toArray.push y = (vs ++ [y]).toArray := by simp
  rw [e2] at en
  exact h _ (S.change (tk := s.toks) (fun b o hb e => hs.extBut b o hb e) en ⟨n, rfl⟩ (plainP_tp ⟨n, rfl⟩))
end

/-! the values of a dict, whatever its keys are; sorted of them -/
def ValsAt (h : Heap) (d : Addr) (vs : List Value) (ep : Nat) : Prop := ∃ o es, h.get? d = some o ∧ o.data = .dict es ep ∧ es.toList.map (·.val) = vs
theorem ValsAt.keep {h h' : Heap} {d : Addr} {vs : List Value} {ep : Nat} (x : ValsAt h d vs ep) (k : ∀ o, h.get? d = some o → h'.get? d = some o) : ValsAt h' d vs ep := let ⟨o, es, e, r⟩ := x; ⟨o, es, k o e, r⟩
theorem ValsAt.lt {h : Heap} {d : Addr} {vs : List Value} {ep : Nat} (x : ValsAt h d vs ep) : d < h.objs.size := let ⟨_, _, e, _⟩ := x; Heap.lt_size e

section
variable {prog : Program} {w : World} {A : Around} {E : Value → Shared → Prop} {s : Shared} {it v d : Addr} {vs : List Value} {ep i : Nat} {x : Value}
theorem viewV (hd : (d == sysModules) = false) (hT : s.TypeIs (.ref d) "dict") {Q : Value → Shared → Prop} (h : Q (.ref s.heap.objs.size) { s with heap := s.heap.push { cls := .type "dict_values", data := .fields #[.ref d] } }) :
    wpAny (model prog w) A (call (.builtin "dict.values") [.ref d]) Q E s := by
  refine wpAny_call_entry PySem.F.slot_dict_values hT PySem.F.entry_dict_values ?_ (PySem.F.args_dict_values_1 _)
  refine wpAny_bind ?_
  unfold Builtin.Dict.noArgs
  refine wpAny_bind (wpAny_notOrdered_dict hT ?_)
  show wpAny _ _ (pure d) _ _ s
  refine wpAny_pure ?_
  show wpAny _ _ (Builtin.Dict.showsAll d >>= _) _ _ s
  unfold Builtin.Dict.showsAll
  rw [if_neg (by rw [hd]; exact Bool.false_ne_true)]
  exact wpAny_bind (wpAny_pure (wpAny_bind (wpAny_newObj_type (wpAny_pure ⟨_, rfl, h⟩))))

theorem iterV {Q : Value → Shared → Prop} (hv : s.heap.IsValuesView v d) (hm : ValsAt s.heap d vs ep)
    (hQ : Q (.ref s.heap.objs.size) { s with heap := s.heap.push { cls := .type "dict_valueiterator", data := .fields #[.ref d, .int 0 0, .int vs.length 0, .int ep 0] } }) :
    wpAny (model prog w) A (pyIter (.ref v)) Q E s := by
  obtain ⟨ov, hov, hcv, hdv⟩ := id hv
  obtain ⟨o, es, ho, hdat, rfl⟩ := id hm
  refine wpAny_pyIter_slot hv.typeIs PySem.F.slot_dict_values_iter (wpAny_call_entry PySem.F.slot_dict_values_iter hv.typeIs PySem.F.entry_dict_values_iter ?_ (PySem.F.args_dict_values_iter_1 _))
  unfold Builtin.«dict_values.__iter__»
  refine wpAny_bind (wpAny_pure ?_)
  refine wpAny_bind ?_
  unfold Builtin.Dict_items.dictOf
  refine wpAny_bind (wpAny_field hov hdv (x := .ref d) rfl (wpAny_pure ?_))
  refine wpAny_bind ?_
  unfold Builtin.Dict_items.newIterator
  refine wpAny_bind (wpAny_dictEntries ho hdat ?_)
  refine wpAny_bind (wpAny_dictEpoch ho hdat ?_)
  have hown : Builtin.Dict_items.ownsTuple "dict_valueiterator" = false := by decide
  simp only [hown, Bool.false_eq_true, if_false]
  refine wpAny_newObj_type (wpAny_pure ⟨_, rfl, "dict_valueiterator", _, ⟨_, Heap.get?_push_size _ rfl, rfl⟩, PySem.F.slot_dict_valueiterator_next.lookup, ?_⟩)
  simpa [rawInt] using hQ

/-- one step of the values' iterator: the next one, or the end -/
theorem stepV {Q : Option Value → Shared → Prop} (hh : A.handled = none) (hit : s.heap.IsValIter it d i vs.length ep) (hm : ValsAt s.heap d vs ep)
    (more : ∀ x h', vs[i]? = some x → h'.IsValIter it d (i + 1) vs.length ep → Heap.SameBut it s.heap h' → Q (some x) { s with heap := h' })
    (out : ∀ h', vs[i]? = none → Heap.ExtBut it s.heap h' → Q none { s with heap := h' }) : wpAny (model prog w) A (pyNext (.ref it)) Q E s := by
  obtain ⟨o, ho, hc, hd⟩ := id hit
  obtain ⟨od, es, hod, hdd, hvs⟩ := id hm
  have hsz : es.size = vs.length := by rw [← hvs]; simp
  have hown : Builtin.Dict_items.ownsTuple "dict_valueiterator" = false := by decide
  unfold pyNext
  refine wpAny_bind (wpAny_attempt (wpAny_callSpecial?_slot (name := PySem.Str.ofString "__next__") hit.typeIs PySem.F.slot_dict_valueiterator_next
    (wpAny_call_entry PySem.F.slot_dict_valueiterator_next hit.typeIs PySem.F.entry_dict_valueiterator_next ?_ (PySem.F.args_dict_valueiterator_next_1 _))))
  refine wpAny_bind (wpAny_pure (wpAny_bind (wpAny_bind ?_)))
  first | refine wpAny_bind (wpAny_typeNameOfWhole_valiter hit.typeIs (wpAny_pure ?_)) | refine wpAny_bind (wpAny_typeNameOf_valiter hit.typeIs (wpAny_pure ?_))
  refine wpAny_bind (wpAny_fieldsOf ho hd ?_)
  simp only [hown, Bool.false_eq_true, if_false]
  refine wpAny_ite_split (fun h => absurd h (show ¬ (Value.ref d == Value.none) = true from Bool.false_ne_true)) fun _ => ?_
  refine wpAny_bind (wpAny_pure (wpAny_bind (wpAny_dictEntries hod hdd ?_)))
  refine wpAny_ite_split (fun h => absurd h (by rw [hsz]; simp)) fun _ => ?_
  refine wpAny_bind (wpAny_pure (wpAny_bind (wpAny_dictEpoch hod hdd ?_)))
  refine wpAny_ite_split (fun h => absurd h (by simp)) fun _ => wpAny_pure ?_
  have hneg : ¬ ((i : Int) < 0) := by omega
  by_cases hlt : i < es.size
  · have hx : vs[i]? = some es[i].val := by
      rw [← hvs, List.getElem?_map, Array.getElem?_toList, Array.getElem?_eq_getElem hlt]; rfl
    simp only [hneg, if_false, Int.toNat_natCast, Array.getElem?_eq_getElem hlt]
    refine wpAny_bind ?_
    first | refine wpAny_bind (wpAny_typeNameOfWhole_valiter hit.typeIs (wpAny_pure ?_)) | refine wpAny_bind (wpAny_typeNameOf_valiter hit.typeIs (wpAny_pure ?_))
    refine wpAny_bind (wpAny_isOneOf_valiter hit.typeIs ?_)
    generalize hh1 : s.heap.update it (Obj.mapFields (·.setIfInBounds 1 (rawInt ((i : Int) + 1)))) = h1
    have hit1 : h1.IsValIter it d (i + 1) vs.length ep := by
      rw [← hh1]
      exact ⟨_, Heap.get?_update_self _ ho (Obj.isFreed_of_fields (Obj.data_mapFields hd _)), (Obj.cls_mapFields ..).trans hc, by rw [Obj.data_mapFields hd]; simp [rawInt]⟩
    have hs1 : Heap.SameBut it s.heap h1 := hh1 ▸ Heap.SameBut.update ..
    show wpAny _ _ (setField (.ref it) 1 (rawInt ((i : Int) + 1)) >>= _) _ _ s
    refine wpAny_bind (wpAny_setField ho hd (by simp) ?_)
    rw [hh1]
    refine wpAny_bind (wpAny_holding ?_)
    refine wpAny_bind (wpAny_isOneOf_valiter (s := { s with heap := h1 }) hit1.typeIs (wpAny_bind (wpAny_isOneOf_valiter (s := { s with heap := h1 }) hit1.typeIs ?_)))
    show wpAny _ _ (pure es[i].val) _ _ _
    exact wpAny_pure (wpAny_pure ⟨_, rfl, wpAny_pure (more _ _ hx hit1 hs1)⟩)
  · have hx : vs[i]? = none := List.getElem?_eq_none (by omega)
    simp only [hneg, if_false, Int.toNat_natCast, Array.getElem?_eq_none (show es.size ≤ i by omega)]
    refine wpAny_bind ?_
    first | refine wpAny_bind (wpAny_typeNameOfWhole_valiter hit.typeIs (wpAny_pure ?_)) | refine wpAny_bind (wpAny_typeNameOf_valiter hit.typeIs (wpAny_pure ?_))
    show wpAny _ _ (setField (.ref it) 0 .none >>= _) _ _ s
    refine wpAny_bind (wpAny_setField ho hd (by simp) ?_)
    show wpAny _ _ (newExc (.type "StopIteration") [] >>= _) _ _ _
    refine wpAny_bind ?_
    simp only [newExc, newTuple]
    refine wpAny_bind (wpAny_newObj_type ?_ (by size_fits))
    refine wpAny_bind (m := firstArgMember _ _) (wpAny_of_eq (a := Value.none) (by first | rfl | (simp only [firstArgMember]; rfl)) (wpAny_newObj_type ?_ (by size_fits)))
    simp only [raiseNew]
    refine wpAny_bind (wpAny_handled ?_)
    rw [show A.in1.handled = none from hh]
    refine wpAny_bind (wpAny_pure (wpAny_throw ?_))
    refine wpAny_bind (wpAny_isInstance (T := "StopIteration") (b := true) ⟨_, Heap.get?_push_size _ rfl, rfl⟩ isSubtype_stop ?_)
    exact wpAny_pure (out _ hx (((Heap.SameBut.update ..).extBut.push _).push _))
end

theorem walksV {prog : Program} {w : World} {A : Around} (hh : A.handled = none) (I d : Addr) (hne : d ≠ I) (vs : List Value) (ep : Nat) :
    Walks prog w A I [I, d] [I] vs.length (fun i v => vs[i]? = some v) (fun i h => h.IsValIter I d i vs.length ep ∧ ValsAt h d vs ep) where
  sub := fun b hb => by simp at hb; simp [hb]
  frame := fun _ _ _ st hk => ⟨st.1.at fun o e => hk I (by simp) o e, st.2.keep fun o e => hk d (by simp) o e⟩
  item := fun i s Q E hi st hQ => stepV hh st.1 st.2 (fun x h' hx hit' hs' => hQ x h' s.toks hx ⟨hit', st.2.keep fun o e => hs'.extBut d o hne e⟩ fun b o hb e => hs'.extBut b o (fun h => hb (by simp [h])) e)
    fun h' hx _ => absurd (hx ▸ List.getElem?_eq_getElem hi) (by simp)
  done := fun s Q E st hQ => stepV hh st.1 st.2 (fun x h' hx _ _ => absurd hx (by simp)) fun h' _ he' => hQ h' s.toks fun b o hb e => he' b o (fun h => hb (by simp [h])) e
  self := fun _ _ _ _ st hQ => wpAny_pyIter_valiter st.1 hQ

theorem srcV {prog : Program} {w : World} {r d : Addr} {vs : List Value} {ep : Nat} : KdlSrc prog w "dict_values" r d vs.length (fun i v => vs[i]? = some v) (fun h => h.IsValuesView r d ∧ ValsAt h d vs ep) where
  type := fun _ hm => hm.1.typeIs
  there := fun _ hm => ⟨let ⟨_, ho, _⟩ := hm.1; Heap.lt_size ho, hm.2.lt⟩
  keep := fun _ _ hm hk => ⟨let ⟨o, ho, x⟩ := hm.1; ⟨o, hk r (.inl rfl) o ho, x⟩, hm.2.keep fun o e => hk d (.inr rfl) o e⟩
  notList := by decide
  notTuple := by decide
  hint := fun _ _ _ _ hm hq => kdl_hint_values hm.1.typeIs hq
  iter := fun _ s hh hm => ⟨_, _, (fun _ _ hq => iterV hm.1 hm.2 hq), walksV hh _ d (Nat.ne_of_lt hm.2.lt) vs ep, ⟨⟨_, Heap.get?_push_size _ rfl, rfl, rfl⟩, hm.2.keep fun _ e => Heap.get?_push_of_some _ e⟩⟩

section
variable {g : Heap} {s0 : Shared} {ex : List Addr} {own : List (Addr × (Obj → Prop))} {z : Heap} {s : Shared} {prog : Program} {w : World} {A : Around} {env : Env} {d : Addr} {xs : DL}
/-- sorted(d.values()), all ints -/
theorem sortedV {ns : List Int} {Q : Value → Shared → Prop} (hh : A.handled = none) (hd : (d == sysModules) = false) (S : St g s0 ex own z s) (hm : (d, dictP prog w xs) ∈ own) (hi : IntsAre (xs.map (·.2.2)) ns) (h64 : xs.length < 64)
    (h : ∀ D vs' ns' s₁, St g s0 ex ((D, listP vs') :: own) z s₁ → IntsAre vs' ns' → ns'.Perm ns → ns'.Pairwise (· ≤ ·) → Q (.ref D) s₁) :
    wpAny (model prog w) A (call (.builtin "dict.values") [.ref d]) (fun v s₁ => wpAny (model prog w) A (call (.builtin "sorted") [v]) Q NoE s₁) NoE s := by
  obtain ⟨o, eo, ⟨c, es, ep, hdat, hes, hn⟩, _⟩ := S.at hm
  refine viewV hd ⟨o, eo, c.1⟩ ?_
  have S1 : St g s0 ex own z { s with heap := s.heap.push { cls := .type "dict_values", data := .fields #[.ref d] } } := S.grow (tk := s.toks) fun b o e => Heap.get?_push_of_some _ e
  have hv : ValsAt (s.heap.push { cls := .type "dict_values", data := .fields #[.ref d] }) d (xs.map (·.2.2)) ep :=
    ⟨o, es, Heap.get?_push_of_some _ eo, hdat, by rw [hes, List.map_map]; rfl⟩
  refine call_function_entry kind_sorted plain_sorted entry_sorted (args_sorted1 _) ?_
  unfold Builtin.«sorted»
  refine wpAny_bind (m := checkCount "sorted" 1 1 _) (wpAny_pure ?_)
  have hlen : (xs.map (·.2.2)).length ≤ sizeLine := by rw [List.length_map, sizeLine_eq]; omega
  refine wpAny_bind (kdu_collect (A := A.in1) srcV hh ⟨⟨_, Heap.get?_push_size _ rfl, rfl, rfl⟩, hv⟩ hlen fun h' tk acc hk hacc => ?_)
  have eacc : acc.toList = xs.map (·.2.2) := by
    apply List.ext_getElem?
    intro j
    by_cases hj : j < acc.size
    · have h1 : acc.toList[j]? = some acc[j] := by rw [Array.getElem?_toList, Array.getElem?_eq_getElem hj]
      rw [h1]
      exact (hacc.2 j _ (by rw [← Array.getElem?_toList]; exact h1)).symm
    · rw [List.getElem?_eq_none (by rw [Array.length_toList]; omega), List.getElem?_eq_none (by rw [← hacc.1]; omega)]
  have S2 := S1.grow (h' := h') (tk := tk) hk
  rw [eacc]
  refine wpAny_bind (wpAny_newList ?_ hlen)
  have S3 := S2.grow (tk := tk) (h' := h'.push { cls := .type "list", data := .seq (xs.map (·.2.2)).toArray }) fun b o e => Heap.get?_push_of_some _ e
  have ho : (h'.push { cls := .type "list", data := .seq (xs.map (·.2.2)).toArray }).get? h'.objs.size = some (seqObj "list" (xs.map (·.2.2)).toArray 0) := Heap.get?_push_size _ rfl
  refine wpAny_bind (wpAny_holding ?_)
  refine wpAny_call_entry slot_list_sort ⟨_, ho, rfl⟩ entry_list_sort (list_sort_tree (n := 0) ho hi (by rw [List.length_map]; exact h64) fun out ns' hI hp hP => ⟨.none, rfl, ?_⟩) (args_list_sort _)
  refine wpAny_pure ⟨_, rfl, ?_⟩
  obtain ⟨e, he⟩ := sortedHeap_at (out := out) ho
  refine h h'.objs.size out.toList ns' _ (S2.fresh (D := h'.objs.size) ⟨⟨_, tk, rfl⟩, fun b o _ e => ?_⟩ ?_ ⟨_, he, ⟨rfl, e, by rw [Array.toArray_toList]⟩, listP_tp (vs := out.toList) ⟨rfl, e, by rw [Array.toArray_toList]⟩⟩) hI hp hP
  · have hlt : b < h'.objs.size := Heap.lt_size e
    rw [sortedHeap_old (Nat.ne_of_lt hlt) (by rw [Heap.size_push]; exact Nat.lt_succ_of_lt hlt)]
    exact Heap.get?_push_of_some _ e
  · cases q : h'.get? h'.objs.size with
    | none => rfl
    | some o' => exact absurd (Heap.lt_size q) (Nat.lt_irrefl _)
end

/-! plain lists: the last of each key -/
section
variable {α β γ : Type} [DecidableEq β]
def lasts (φ : α → β) : List α → List α
  | [] => []
  | a :: r => if φ a ∈ r.map φ then lasts φ r else a :: lasts φ r
theorem lasts_sub {φ : α → β} : ∀ {l : List α} {x : α}, x ∈ lasts φ l → x ∈ l
  | a :: r, x, h => by
    unfold lasts at h
    split at h
    · exact .tail _ (lasts_sub h)
    · rcases List.mem_cons.mp h with rfl | h
      · exact .head _
      · exact .tail _ (lasts_sub h)
theorem lasts_nodup {φ : α → β} : ∀ {l : List α}, ((lasts φ l).map φ).Nodup
  | [] => List.nodup_nil
  | a :: r => by
    unfold lasts
    split
    · exact lasts_nodup
    · rename_i h
      rw [List.map_cons, List.nodup_cons]
      refine ⟨fun hm => h ?_, lasts_nodup⟩
      obtain ⟨x, hx, e⟩ := List.mem_map.mp hm
      exact e ▸ List.mem_map.mpr ⟨x, lasts_sub hx, rfl⟩
theorem lasts_id {φ : α → β} : ∀ {l : List α}, (l.map φ).Nodup → lasts φ l = l
  | [], _ => rfl
  | a :: r, h => by
    rw [List.map_cons, List.nodup_cons] at h
    unfold lasts
    rw [if_neg h.1, lasts_id h.2]
theorem lasts_twice {φ : α → β} : ∀ {a b : List α}, (∀ x ∈ a, φ x ∈ b.map φ) → lasts φ (a ++ b) = lasts φ b
  | [], _, _ => rfl
  | x :: r, b, h => by
    rw [List.cons_append]
    unfold lasts
    rw [if_pos (by rw [List.map_append]; exact List.mem_append.mpr (.inr (h x (.head _))))]
    exact (lasts_twice fun y hy => h y (.tail _ hy)).trans (by conv => lhs; unfold lasts)
theorem lasts_map {φ : β → γ} [DecidableEq γ] {ψ : α → β} : ∀ {l : List α}, lasts φ (l.map ψ) = (lasts (φ ∘ ψ) l).map ψ
  | [] => rfl
  | a :: r => by
    rw [List.map_cons]
    unfold lasts
    rw [List.map_map, lasts_map]
    by_cases h : φ (ψ a) ∈ r.map (φ ∘ ψ)
    · rw [if_pos h]
      exact congrArg (List.map ψ) (if_pos (show (φ ∘ ψ) a ∈ _ from h)).symm
    · rw [if_neg h]
      exact (congrArg (List.map ψ) (if_neg (show ¬ (φ ∘ ψ) a ∈ r.map (φ ∘ ψ) from h) : (if (φ ∘ ψ) a ∈ r.map (φ ∘ ψ) then lasts (φ ∘ ψ) r else a :: lasts (φ ∘ ψ) r) = a :: lasts (φ ∘ ψ) r)).symm
theorem lasts_congr {φ φ' : α → β} : ∀ {l : List α}, (∀ x ∈ l, φ x = φ' x) → lasts φ l = lasts φ' l
  | [], _ => rfl
  | a :: r, h => by
    have e : r.map φ = r.map φ' := List.map_congr_left fun x hx => h x (.tail _ hx)
    unfold lasts
    rw [e, h a (.head _), lasts_congr fun x hx => h x (.tail _ hx)]

/-- the places that are the last of their key -/
def isLast (ss : List β) (i : Nat) : Bool := match ss[i]? with
  | none => false
  | some k => decide (k ∉ ss.drop (i + 1))
def lastIdx (ss : List β) : List Nat := (List.range ss.length).filter (isLast ss)
theorem isLast_iff {ss : List β} {i : Nat} : isLast ss i = true ↔ ∃ k, ss[i]? = some k ∧ ∀ j, i < j → ss[j]? ≠ some k := by
  unfold isLast
  cases h : ss[i]? with
  | none => simp
  | some k =>
    simp only [decide_eq_true_eq, Option.some.injEq, exists_eq_left']
    constructor
    · intro hn j hj e
      refine hn (List.mem_iff_getElem?.mpr ⟨j - (i + 1), ?_⟩)
      rw [List.getElem?_drop, show i + 1 + (j - (i + 1)) = j from by omega]
      exact e
    · intro hn hm
      obtain ⟨j, e⟩ := List.mem_iff_getElem?.mp hm
      rw [List.getElem?_drop] at e
      exact hn (i + 1 + j) (by omega) e
theorem lasts_idx {φ : α → β} : ∀ {l : List α}, (lastIdx (l.map φ)).filterMap (fun i => l[i]?) = lasts φ l
  | [] => rfl
  | a :: r => by
    have ih := lasts_idx (φ := φ) (l := r)
    unfold lastIdx at ih ⊢
    rw [List.map_cons, List.length_cons, List.range_succ_eq_map, List.filter_cons]
    have e0 : isLast (φ a :: r.map φ) 0 = decide (φ a ∉ r.map φ) := rfl
    have e1 : (isLast (φ a :: r.map φ) ∘ Nat.succ) = isLast (r.map φ) := by funext i; rfl
    have e2 : ((fun i => (a :: r)[i]?) ∘ Nat.succ) = fun i => r[i]? := by funext i; rfl
    rw [e0, List.filter_map, e1]
    unfold lasts
    by_cases h : φ a ∈ r.map φ
    · rw [if_neg (by simpa using h), if_pos h, List.filterMap_map, e2]
      exact ih
    · rw [if_pos (by simpa using h), if_neg h, List.filterMap_cons, List.filterMap_map, e2, ih]
      rfl

/-- the table of a dict that is stored into again and again -/
def putK (ks : List (β × Nat)) (k : β) (i : Nat) : List (β × Nat) := if (ks.any fun p => decide (p.1 = k)) = true then ks.map (fun p => if p.1 = k then (p.1, i) else p) else ks ++ [(k, i)]
def tabN (ss : List β) : Nat → List (β × Nat)
  | 0 => []
  | n + 1 => match ss[n]? with
    | some k => putK (tabN ss n) k n
    | none => tabN ss n
theorem putK_mem {ks : List (β × Nat)} {k : β} {i : Nat} {q : β × Nat} : q ∈ putK ks k i ↔ (q ∈ ks ∧ q.1 ≠ k) ∨ q = (k, i) := by
  unfold putK
  split
  · rename_i h
    obtain ⟨p, hp, e⟩ := List.any_eq_true.mp h
    have e := of_decide_eq_true e
    rw [List.mem_map]
    constructor
    · rintro ⟨r, hr, rfl⟩
      by_cases hk : r.1 = k
      · rw [if_pos hk]; exact .inr (by rw [hk])
      · rw [if_neg hk]; exact .inl ⟨hr, hk⟩
    · rintro (⟨hq, hk⟩ | rfl)
      · exact ⟨q, hq, if_neg hk⟩
      · exact ⟨p, hp, by rw [if_pos e, e]⟩
  · rename_i h
    have hno : ∀ p ∈ ks, p.1 ≠ k := fun p hp e => h (List.any_eq_true.mpr ⟨p, hp, decide_eq_true e⟩)
    rw [List.mem_append, List.mem_singleton]
    exact ⟨fun x => x.imp (fun y => ⟨y, hno q y⟩) id, fun x => x.imp And.left id⟩
theorem putK_keys {ks : List (β × Nat)} {k : β} {i : Nat} (h : (ks.map (·.1)).Nodup) : ((putK ks k i).map (·.1)).Nodup := by
  unfold putK
  split
  · rw [List.map_map]
    have e : ((fun p : β × Nat => p.1) ∘ fun p => if p.1 = k then (p.1, i) else p) = fun p => p.1 := by funext p; show (if p.1 = k then (p.1, i) else p).1 = p.1; split <;> rfl
    rw [e]; exact h
  · rename_i hn
    rw [List.map_append, List.nodup_append]
    refine ⟨h, by simp, fun x hx y hy => ?_⟩
    rintro rfl
    obtain ⟨p, hp, rfl⟩ := List.mem_map.mp hx
    simp only [List.map_cons, List.map_nil, List.mem_singleton] at hy
    exact hn (List.any_eq_true.mpr ⟨p, hp, decide_eq_true hy⟩)
theorem tabN_keys {ss : List β} : ∀ n, ((tabN ss n).map (·.1)).Nodup
  | 0 => List.nodup_nil
  | n + 1 => by
    unfold tabN
    split
    · exact putK_keys (tabN_keys n)
    · exact tabN_keys n
theorem tabN_mem {ss : List β} : ∀ {n : Nat} {q : β × Nat}, q ∈ tabN ss n ↔ q.2 < n ∧ ss[q.2]? = some q.1 ∧ ∀ j, q.2 < j → j < n → ss[j]? ≠ some q.1
  | 0, q => by simp [tabN]
  | n + 1, q => by
    unfold tabN
    cases h : ss[n]? with
    | none =>
      simp only
      rw [tabN_mem]
      constructor
      · rintro ⟨h1, h2, h3⟩
        refine ⟨by omega, h2, fun j hj hn => ?_⟩
        by_cases e : j = n
        · subst e; rw [h]; simp
        · exact h3 j hj (by omega)
      · rintro ⟨h1, h2, h3⟩
        refine ⟨?_, h2, fun j hj hn => h3 j hj (by omega)⟩
        by_cases e : q.2 = n
        · rw [e, h] at h2; cases h2
        · omega
    | some k =>
      simp only
      rw [putK_mem, tabN_mem]
      constructor
      · rintro (⟨⟨h1, h2, h3⟩, hk⟩ | rfl)
        · refine ⟨by omega, h2, fun j hj hn => ?_⟩
          by_cases e : j = n
          · subst e; rw [h]; intro e'; exact hk (Option.some.inj e').symm
          · exact h3 j hj (by omega)
        · exact ⟨by simp, h, fun j hj hn => absurd hn (by simp at hj; omega)⟩
      · rintro ⟨h1, h2, h3⟩
        by_cases e : q.2 = n
        · refine .inr ?_
          rw [e, h] at h2
          exact Prod.ext (Option.some.inj h2).symm e
        · refine .inl ⟨⟨by omega, h2, fun j hj hn => h3 j hj (by omega)⟩, fun hk => h3 n (by omega) (by omega) (by rw [h, hk])⟩

theorem strict_ext : ∀ {a b : List Int}, a.Pairwise (· < ·) → b.Pairwise (· < ·) → (∀ x, x ∈ a ↔ x ∈ b) → a = b
  | [], [], _, _, _ => rfl
  | [], y :: s, _, _, h => absurd ((h y).mpr (.head _)) (by simp)
  | x :: r, [], _, _, h => absurd ((h x).mp (.head _)) (by simp)
  | x :: r, y :: s, ha, hb, h => by
    obtain ⟨a1, a2⟩ := List.pairwise_cons.mp ha
    obtain ⟨b1, b2⟩ := List.pairwise_cons.mp hb
    have hxy : x = y := by
      rcases List.mem_cons.mp ((h x).mp (.head _)) with e | e
      · exact e
      · rcases List.mem_cons.mp ((h y).mpr (.head _)) with e' | e'
        · exact e'.symm
        · have := b1 x e; have := a1 y e'; omega
    subst hxy
    rw [strict_ext a2 b2 fun z => ?_]
    constructor
    · intro hz
      rcases List.mem_cons.mp ((h z).mp (.tail _ hz)) with e | e
      · have := a1 z hz; omega
      · exact e
    · intro hz
      rcases List.mem_cons.mp ((h z).mpr (.tail _ hz)) with e | e
      · have := b1 z hz; omega
      · exact e
theorem sorted_tab {ss : List β} {ns' : List Int} (hp : ns'.Perm ((tabN ss ss.length).map fun p => (p.2 : Int))) (hs : ns'.Pairwise (· ≤ ·)) : ns' = (lastIdx ss).map (fun i : Nat => (i : Int)) := by
  have hkeys := tabN_keys (ss := ss) ss.length
  have hnd : ((tabN ss ss.length).map fun p => (p.2 : Int)).Nodup := by
    rw [List.Nodup, List.pairwise_map] at hkeys ⊢
    refine List.Pairwise.imp_of_mem (fun {p q} hp hq hne e => hne ?_) hkeys
    have e : p.2 = q.2 := Int.ofNat.inj e
    have h1 := (tabN_mem.mp hp).2.1
    have h2 := (tabN_mem.mp hq).2.1
    rw [e, h2] at h1
    exact (Option.some.inj h1).symm
  have hnd' : ns'.Nodup := hp.nodup_iff.mpr hnd
  refine strict_ext ?_ ?_ ?_
  · have := hs.and hnd'
    exact this.imp fun ⟨a, b⟩ => by omega
  · rw [List.pairwise_map]
    exact (List.pairwise_lt_range.filter _).imp fun h => by omega
  · intro x
    rw [hp.mem_iff, List.mem_map, List.mem_map]
    constructor
    · rintro ⟨p, hp, rfl⟩
      obtain ⟨h1, h2, h3⟩ := tabN_mem.mp hp
      refine ⟨p.2, List.mem_filter.mpr ⟨List.mem_range.mpr h1, isLast_iff.mpr ⟨p.1, h2, fun j hj e => h3 j hj (List.getElem?_eq_some_iff.mp e).1 e⟩⟩, rfl⟩
    · rintro ⟨i, hi, rfl⟩
      obtain ⟨h1, h2⟩ := List.mem_filter.mp hi
      obtain ⟨k, hk, hno⟩ := isLast_iff.mp h2
      exact ⟨(k, i), tabN_mem.mpr ⟨List.mem_range.mp h1, hk, fun j hj _ => hno j hj⟩, rfl⟩
end

/-! the methods of dicts in expressions; unpacking; comprehensions over what is found on the way; newest -/
section
variable {g : Heap} {s0 : Shared} {ex : List Addr} {own : List (Addr × (Obj → Prop))} {z : Heap} {s : Shared} {prog : Program} {w : World} {A : Around} {env : Env}
theorem dictMeth {d : Addr} {xs : DL} {name : PySem.Str} {id : String} {pl : Sem Bool} {Q : Value × List Value → Shared → Prop} (slot : Slot "dict" name id) (ty : typeOf (.builtin id) = pure (.type "method_descriptor")) (S : St g s0 ex own z s) (hm : (d, dictP prog w xs) ∈ own)
    (h : Q (.builtin id, [.ref d]) s) : wpAny (model prog w) A (getMethod (.ref d) name pl) Q NoE s := by
  obtain ⟨o, e, ⟨c, _⟩, _⟩ := S.at hm
  exact getMethod_builtin ⟨o, e, c.1⟩ PySem.F.plainAttrs_dict slot ty (fun b hb => by cases hb; exact ⟨o, e, c.2.1⟩) h
theorem valE {o : Expr} {apos pos : Pos} {pl : Sem Bool} {Q : Value → Shared → Prop}
    (h : wpAny (model prog w) A (eval o env) (fun ov s₁ => ∃ d own z xs, ov = .ref d ∧ St g s0 ex own z s₁ ∧ (d, dictP prog w xs) ∈ own ∧ wpAny (model prog w) A (call (.builtin "dict.values") [.ref d]) Q NoE s₁) NoE s)
    (he : eval (.Call (.Attribute o "values" apos) [] [] pos) env = (do
      let ov ← eval o env
      standAt apos.atName
      let (f, first) ← holding [ov] (getMethod ov "values" pl)
      callWith pos f first (backTo pos (starEach [] env)) []) := by rfl) :
    wpAny (model prog w) A (eval (.Call (.Attribute o "values" apos) [] [] pos) env) Q NoE s := by
  refine MethodCall_ (wpAny_mono h (fun ov s₁ h₁ => ?_) fun _ _ e => e) he
  obtain ⟨d, own, z, xs, rfl, S, hm, hc⟩ := h₁
  refine dictMeth PySem.F.slot_dict_values PySem.F.type_dict_values S hm ?_
  exact Calls.callWith_builtin (args := []) rfl (PyProof.Rows.evalArgs_none hc)
theorem getE {o k : Expr} {rest : List Expr} {apos pos : Pos} {pl : Sem Bool} {Q : Value → Shared → Prop}
    (h : wpAny (model prog w) A (eval o env) (fun ov s₁ => ∃ d own z xs, ov = .ref d ∧ St g s0 ex own z s₁ ∧ (d, dictP prog w xs) ∈ own ∧ wpAny (model prog w) A (spliced (backTo pos (starEach (k :: rest) env))) (fun vs s₂ => wpAny (model prog w) A (call (.builtin "dict.get") (.ref d :: vs)) Q NoE s₂) NoE s₁) NoE s)
    (he : eval (.Call (.Attribute o "get" apos) (k :: rest) [] pos) env = (do
      let ov ← eval o env
      standAt apos.atName
      let (f, first) ← holding [ov] (getMethod ov "get" pl)
      callWith pos f first (backTo pos (starEach (k :: rest) env)) []) := by rfl)
    (hs : starEach (k :: rest) env = (false, eval k env) :: starEach rest env := by rfl) (hp : (backTo pos (starEach (k :: rest) env)).any (·.1) = false := by rfl) :
    wpAny (model prog w) A (eval (.Call (.Attribute o "get" apos) (k :: rest) [] pos) env) Q NoE s := by
  refine MethodCall_ (wpAny_mono h (fun ov s₁ h₁ => ?_) fun _ _ e => e) he
  obtain ⟨d, own, z, xs, rfl, S, hm, hc⟩ := h₁
  refine dictMeth PySem.F.slot_dict_get PySem.F.type_dict_get S hm ?_
  refine Calls.callWith_builtin hp ?_
  rw [hs] at hc ⊢
  exact Calls.evalArgs_plain hc

theorem asgTp {elts : List Expr} {k : Nat} {pos : Pos} {T : Addr} {vs : List Value} {Q : Unit → Shared → Prop} (S : St g s0 ex own z s) (hT : IsTup s.heap T vs.toArray) (hh : A.handled = none)
    (h : ∀ s₁, St g s0 ex own z s₁ → KeepsX [] s s₁ → wpAny (model prog w) A (assignInOrder ((assignEach elts env).map (·.2)) vs) Q NoE s₁)
    (hn : (assignEach elts env).length = vs.toArray.size := by rfl) (hst : (assignEach elts env).findIdx? (·.1) = none := by rfl) : wpAny (model prog w) A (assign (.Tuple elts k pos) env (.ref T)) Q NoE s :=
  assign_Tuple_tuple hh hT hn hst fun h' hx => h _ (S.grow (tk := s.toks) (ext_size hx)) ⟨⟨h', s.toks, rfl⟩, fun b o _ e => ext_size hx b o e⟩

theorem compE2 {elt target iter : Expr} {ifs : List Expr} {scope : Scope} {pos : Pos} {cl : List (PySem.Str × Addr)} {q0 : Addr × (Obj → Prop)} {Q : Value → Shared → Prop} (hclos : closureFor scope env = pure cl)
    (h : wpAny (model prog w) A (eval iter env) (fun x s₁ => wpAny (model prog w) A (pyIter x) (fun it s₂ => ∃ (I : Addr) (n : Nat) (its : Nat → List (Addr × (Obj → Prop))) (H : Heap → Prop) (V : Nat → Value → Heap → Prop) (own : List (Addr × (Obj → Prop))) (z : Heap) (J : Nat → List Value → List (Addr × (Obj → Prop)) → Heap → Prop),
      it = .ref I ∧ Itr prog w A target I n its H V ∧ n ≤ 1000 ∧ St g s0 ex (q0 :: (own ++ its 0)) z s₂ ∧ J 0 [] own z ∧ (∀ i ys own' z', J i ys own' z' → ys.length ≤ i) ∧
      (∀ i ys own' z' s', J i ys own' z' → ∀ D C mC tl, St g s0 ex ((C, nsP mC) :: (D, plainP ys) :: q0 :: (own' ++ tl)) z' s' → H s'.heap) ∧
      (∀ i v ys own' z' s₁ tl C D mC, i < n → J i ys own' z' → V i v s₁.heap → St g s0 ex ((C, nsP mC) :: (D, plainP ys) :: q0 :: (own' ++ tl)) z' s₁ →
        wpAny (model prog w) A (assign target (compEnvC scope cl C env) v) (fun _ s₂ =>
          wpAny (model prog w) A (forIn ifs true fun c r => if r = true then do let ok ← isTrue c (compEnvC scope cl C env) (eval c (compEnvC scope cl C env)); pure (ForInStep.yield ok) else pure (ForInStep.yield r)) (fun ok s₃ =>
            if ok = true then wpAny (model prog w) A (eval elt (compEnvC scope cl C env)) (fun y s₄ => ∃ mC' own₂ z₂, St g s0 ex ((C, nsP mC') :: (D, plainP ys) :: q0 :: (own₂ ++ tl)) z₂ s₄ ∧ J (i + 1) (ys ++ [y]) own₂ z₂) NoE s₃
            else ∃ mC' own₂ z₂, St g s0 ex ((C, nsP mC') :: (D, plainP ys) :: q0 :: (own₂ ++ tl)) z₂ s₃ ∧ J (i + 1) ys own₂ z₂) NoE s₂) NoE s₁) ∧
      (∀ ys own' z' s' D, J n ys own' z' → St g s0 ex (q0 :: (D, plainP ys) :: own') z' s' → Q (.ref D) s')) NoE s₁) NoE s)
    (hkind : scope.kind = .function := by rfl) (hcell : ∀ y ∈ scope.names, y.2 ≠ .cell := by decide) (hnames : ∀ y ∈ scope.names, y.2 = .local → scope.names.lookup y.1 = some .local := by decide) (hs : ∀ x, foldedSetIterable iter env x = pure x := by intro _; rfl) :
    wpAny (model prog w) A (eval (.ListComp elt [⟨target, iter, ifs, 0⟩] scope pos) env) Q NoE s := by
  rw [eval_ListComp]
  refine wpAny_comprehension_free (use := none) rfl hs hclos hkind hnames (wpAny_mono h (fun x s₁ h₁ => wpAny_mono h₁ (fun it s₂ h₂ => ?_) fun _ _ e => e) fun _ _ e => e)
  obtain ⟨I, n, its, H, V, own, z, J, rfl, It, hn, S₂, hJ, hlen, HL, turn, done⟩ := h₂
  refine compBlk (RR := fun acc C => compPost (model prog w) A NoE none Q acc C) It J hn hcell hkind S₂ hJ hlen HL turn (fun ys own' z' s' D C mC hJ S' => ?_)
  exact ⟨mC, S'.ns (.head _), fun h' hs' => done ys own' z' _ D hJ (S'.lose (pre := []) (tk := s'.toks) fun b o hb e => hs'.extBut b o hb e).swap⟩
end

theorem ints_at : ∀ {vs : List Value} {ns : List Int}, IntsAre vs ns → ∀ {i : Nat} {v : Value}, vs[i]? = some v → ∃ n t, ns[i]? = some n ∧ v = .int n t
  | _, _, .nil, i, v, h => by simp at h
  | _, _, .cons n t r, 0, v, h => ⟨n, t, rfl, (Option.some.inj h).symm⟩
  | _, _, .cons n t r, i + 1, v, h => ints_at r (i := i) h

/-! the dict of places -/
def RelK (xs : DL) (ks : List (Fm × Nat)) : Prop := Paired (fun (x : Fm × Addr × Value) (p : Fm × Nat) => x.1 = p.1 ∧ ∃ t, x.2.2 = Value.int (p.2 : Int) t) xs ks
theorem RelK.some {xs : DL} {ks : List (Fm × Nat)} (h : RelK xs ks) (f : Fm) : (atKey xs f).isSome = ks.any fun p => decide (p.1 = f) := by
  induction h with
  | nil => rfl
  | cons h1 _ ih =>
    rename_i x p xs ks _
    unfold atKey at ih ⊢
    rw [List.find?_cons, List.any_cons, h1.1]
    cases hd : decide (p.1 = f) with
    | true => rfl
    | false => simpa using ih
theorem RelK.stored {xs : DL} {ks : List (Fm × Nat)} (h : RelK xs ks) (f : Fm) (a : Addr) (i : Nat) (t : Tok) : RelK (storedH xs f a (.int (i : Int) t)) (putK ks f i) := by
  unfold storedH putK
  rw [h.some f]
  split
  · rename_i hs
    clear hs
    induction h with
    | nil => exact .nil
    | cons h1 _ ih =>
      rename_i x p xs ks _
      refine .cons ?_ ih
      unfold putAt
      dsimp only
      by_cases e : p.1 = f
      · rw [if_pos (h1.1.trans e), if_pos e]; exact ⟨h1.1, t, rfl⟩
      · rw [if_neg (fun e' => e (h1.1.symm.trans e')), if_neg e]; exact h1
  · exact paired_append h (.cons ⟨rfl, t, rfl⟩ .nil)
theorem RelK.ints {xs : DL} {ks : List (Fm × Nat)} (h : RelK xs ks) : IntsAre (xs.map (·.2.2)) (ks.map fun p => (p.2 : Int)) := by
  induction h with
  | nil => exact .nil
  | cons h1 _ ih =>
    obtain ⟨t, e⟩ := h1.2
    rw [List.map_cons, List.map_cons, e]
    exact .cons _ _ ih
theorem putK_len {β : Type} [DecidableEq β] {ks : List (β × Nat)} {k : β} {i : Nat} : (putK ks k i).length ≤ ks.length + 1 := by
  unfold putK; split <;> simp
theorem tabN_len {β : Type} [DecidableEq β] {ss : List β} : ∀ n, (tabN ss n).length ≤ n
  | 0 => Nat.le_refl _
  | n + 1 => by
    unfold tabN
    have ih := tabN_len (ss := ss) n
    split
    · exact Nat.le_trans putK_len (by omega)
    · omega

local macro_rules | `(tactic| walk_at "q") => `(tactic| with_reducible refine wpAny_assign_Name ?_)

/-- what the text asks of a frame whose subject is taken -/
def Sub (f : Fm) : Prop := Hd f ∧ (pairs (kindF f) = true → 2 ≤ f.length) ∧ Ky.opq ∉ subjOf f
theorem Sub.two {f r : Fm} {x : PySem.Str} (h : Sub f) (e : f = .str x :: r) (hp : pairs x = true) : r ≠ [] := by
  rintro rfl
  subst e
  have := h.2.1 hp
  simp at this

section
variable {g : Heap} {s : Shared} {prog : Program} {w : World} {A : Around} {a asj l : Addr} {mg mb : PySem.Str → Option Value}
theorem newest_spec {k : Nat} {fs : List Fm} {vs : List Value} (hg : GSub g s) (N : Names g mg mb) (B : Blt mg mb) (hf : FnN g a 7) (hfs : FnN g asj 6) (hs : mg "subject_of" = some (.ref asj)) (R : Room A (k + 2))
    (hl : s.heap.IsList l vs.toArray) (hv : FrsAt s.heap fs vs) (hh : ∀ f ∈ fs, Sub f) (hz : vs.length < 64) :
    wpAny (model prog w) A (call (.ref a) [.ref l]) (fun v s' => ∃ vs', NewL s s' v vs' ∧ FrsAt s'.heap (lasts subjOf fs) vs') NoE s := by
  refine callC (cn := "frames") (binds := [("frames", .ref l)]) hg N hf R (fun _ _ _ => by rfl) (fun _ => rfl) (fun L x hx => by rw [List.mem_singleton.mp hx]; exact .inr ⟨rfl, rfl⟩) ?_
  intro cd L s₁ R₁ S
  show wpAny _ _ (execs (bodyAt 7) _) _ _ _
  have hlen : fs.length = vs.length := hv.length
  refine wpAny_execs_cons (wpAny_Assign_Name ?_)
  refine newD S N fun d s₂ hd S₂ _ => ?_
  have S₂ := S₂.swap
  walk_at "q"
  walk_at "q"
  refine wpAny_For ?_
  refine callT1 ‹_› N B.nenumerate B.benumerate ?_
  refine ldC ‹_› rfl (.tail _ (.tail _ (.head _))) ?_
  have S₃ := ‹St g s [] _ _ _›
  refine iterEn S₃ (S₃.isList0 hl) fun I it s₄ S₄ => ?_
  refine forA (itrEn R₁.handled I it l vs _ _ _) (fun i own' z' => ∃ m xs, own' = [(L, nsP m), (d, dictP prog w xs), (L + 1, cellP (some (.ref l)))] ∧ m "last" = some (.ref d) ∧ KeysAt prog w z' xs ∧ RelK xs (tabN (fs.map subjOf) i) ∧ TupSub s.heap z')
    S₄ ⟨_, [], rfl, rfl, (fun x hx => nomatch hx), .nil, TupSub.refl _⟩ ?_ ?_ ?_
  · rintro i own' z' s' _ tl S'
    exact S'.isList0 hl
  · rintro i v own' z' s' tl hi ⟨m, xs, rfl, hm, hk, hr, ht⟩ ⟨T, t, x, rfl, hT, hx⟩ S'
    refine asgTp S' hT R₁.handled fun s₅ S₅ _ => ?_
    refine wpAny_assignInOrder_more ?_
    walk_at "q"
    walk_at "q"
    refine wpAny_assignInOrder_more ?_
    walk_at "q"
    walk_at "q"
    refine wpAny_assignInOrder_none ?_
    walk_at "qs"
    obtain ⟨f, hfi, hfv⟩ := paired_get' hv hx
    have hsub := hh f (List.mem_of_getElem? hfi)
    obtain ⟨r, hr'⟩ := hsub.1.eq
    refine callG ‹_› N hs hfs ?_
    walk_at "qs"
    have S₆ := ‹St g s [] _ _ _›
    refine ⟨⟨_, _, S₆⟩, wpAny_mono (subj_spec S₆.gkeep N hfs R₁ (hfv.up (ht.trans S₆.tu)) hr' (hsub.two hr')) (fun v' s₇ h₇ => ?_) fun _ _ e => e⟩
    obtain ⟨K₇, hv'⟩ := h₇
    have S₇ := S₆.keeps K₇
    have hxs : xs.length ≤ i := by rw [hr.length]; exact tabN_len i
    refine setD (pre := [_]) R₁.u1 S₇ hk hv' hsub.2.2 (by omega) fun a' s₈ _ S₈ hk₈ => ?_
    walk_at "qs"
    refine ⟨[_, _, _], _, S₈, ?_⟩
    refine ⟨_, _, rfl, hm, hk₈, ?_, ht.trans S₇.tu⟩
    have e : (fs.map subjOf)[i]? = some (subjOf f) := by rw [List.getElem?_map, hfi]; rfl
    unfold tabN
    rw [e]
    exact hr.stored _ _ _ _
  · rintro own' z' s' ⟨m, xs, rfl, hm, hk, hr, ht⟩ S'
    refine wpAny_execs_cons (wpAny_Return_some ?_)
    refine compE2 (g := g) (s0 := s) (ex := []) (q0 := (L, nsP m)) (cl := [("frames", L + 1)]) rfl ?_
    refine callB1 S' N B.nsorted B.bsorted ?_
    refine valE (g := g) (s0 := s) (ex := []) ?_
    refine ldL S' (.head _) hm ?_
    have hdm : (d, dictP prog w xs) ∈ [(L, nsP m), (d, dictP prog w xs), (L + 1, cellP (some (.ref l)))] := .tail _ (.head _)
    refine ⟨d, _, _, xs, rfl, S', hdm, ?_⟩
    have h64 : xs.length < 64 := by rw [hr.length]; have := tabN_len (ss := fs.map subjOf) vs.length; omega
    refine sortedV R₁.handled hd S' hdm hr.ints h64 fun D vs' ns' s₅ S₅ hi hp hs' => ?_
    have hns : ns' = (lastIdx (fs.map subjOf)).map (fun i : Nat => (i : Int)) := sorted_tab (by rw [List.length_map, hlen]; exact hp) hs'
    subst hns
    have hvl : vs'.length = (lastIdx (fs.map subjOf)).length := by have := hi.length; rw [List.length_map] at this; omega
    have hll : (lastIdx (fs.map subjOf)).length ≤ vs.length := by
      unfold lastIdx
      refine Nat.le_trans (List.length_filter_le _ _) ?_
      rw [List.length_range, List.length_map, hlen]; exact Nat.le_refl _
    have S₅ := S₅.swap
    refine iterLs S₅ (St.list S₅ (.tail _ (.head _))) fun I2 s₆ S₆ => ?_
    refine ⟨I2, vs'.length, fun i => [(I2, lsIterP D i)], fun h => h.IsList D vs'.toArray, fun i v _ => vs'[i]? = some v, [(D, listP vs'), (d, dictP prog w xs), (L + 1, cellP (some (.ref l)))], z',
      fun i ys own' z'' => own' = [(D, listP vs'), (d, dictP prog w xs), (L + 1, cellP (some (.ref l)))] ∧ z'' = z' ∧ FrsAt s.heap (((lastIdx (fs.map subjOf)).take i).filterMap fun i => fs[i]?) ys ∧ ys.length ≤ i,
      rfl, itrLs R₁.handled I2 D vs' _ (.inl fun _ => rfl), by omega, S₆, ⟨rfl, rfl, .nil, Nat.le_refl _⟩, fun _ _ _ _ h => h.2.2.2, ?_, ?_, ?_⟩
    · rintro i ys own' z'' s'' ⟨rfl, rfl, _⟩ D' C mC tl S''
      exact St.list S'' (.tail _ (.tail _ (.tail _ (.head _))))
    · rintro i v ys own' z'' s'' tl C D' mC hi' ⟨rfl, rfl, hp', hle⟩ hvi S''
      obtain ⟨n, t, hn, rfl⟩ := ints_at hi hvi
      rw [List.getElem?_map, Option.map_eq_some_iff] at hn
      obtain ⟨j, hj, rfl⟩ := hn
      have hjlt : j < fs.length := by
        have := (List.mem_filter.mp (List.mem_of_getElem? hj)).1
        rw [List.mem_range, List.length_map] at this
        exact this
      walk_at "q"
      walk_at "q"
      refine ifs0 ?_
      simp only [if_true]
      walk_at "q"
      refine ldC (c := L + 1) (v := .ref l) ‹_› rfl (.tail _ (.tail _ (.tail _ (.tail _ (.tail _ (.head _)))))) ?_
      walk_at "qs"
      have S₇ := ‹St g s [] _ _ _›
      have hvj : vs[j]? = some vs[j] := List.getElem?_eq_getElem (by omega)
      refine lsItem (v := vs[j]) (S₇.isList0 hl) (by omega) (by omega) (by simpa using hvj) ?_
      obtain ⟨f, hfj, hfv⟩ := paired_get' hv hvj
      refine ⟨_, _, _, S₇, rfl, rfl, ?_, by simpa using hle⟩
      rw [List.take_add_one, hj, List.filterMap_append]
      have e : (Option.some j).toList.filterMap (fun i => fs[i]?) = [f] := by simp [hfj]
      rw [e]
      exact hp'.snoc hfv
    · rintro ys own' z'' s'' D' ⟨rfl, rfl, hp', _⟩ S''
      refine ⟨ys, S''.giveL (.tail _ (.head _)), FrsAt.up ?_ (ht.trans S''.tu)⟩
      rw [hvl, List.take_length, lasts_idx] at hp'
      exact hp'
end

/-! slices; the last item; dicts that stand in the given heap -/
theorem DictOfH_keep {prog : Program} {w : World} {h h' : Heap} {d : Addr} {xs : DL} (x : h.DictOfH (tkd prog w) d xs) (k : ∀ b o, h.get? b = some o → h'.get? b = some o) : h'.DictOfH (tkd prog w) d xs :=
  let ⟨o, es, ep, e, c, hd, he, hk, hn⟩ := x; ⟨o, es, ep, k _ _ e, c, hd, he, fun y hy => let ⟨o, its, n, e, r⟩ := hk y hy; ⟨o, its, n, k _ _ e, r⟩, hn⟩
section
variable {g : Heap} {s0 : Shared} {ex : List Addr} {own : List (Addr × (Obj → Prop))} {z : Heap} {s : Shared} {prog : Program} {w : World} {A : Around} {env : Env} {d a : Addr} {f : Fm} {xs : DL} {v : Value}
theorem inH {Q : Value → Shared → Prop} (hu : A.units + 1 < cLine) (hd : (d == sysModules) = false) (S : St g s0 ex own z s) (hD : s.heap.DictOfH (tkd prog w) d xs) (hf : FrAt s.heap f v) (hn : Ky.opq ∉ f)
    (h : ∀ s₁, St g s0 ex own z s₁ → KeepsX [] s s₁ → Q (.bool (atKey xs f).isSome) s₁) : wpAny (model prog w) A (compareOp .In v (.ref d)) Q NoE s := by
  obtain ⟨a, rfl, ha⟩ := hf.key (prog := prog) (w := w) hn
  exact wpAny_in_heap (knd := tkd prog w) hu ha hd hD (h _ (S.toks _) ⟨⟨_, _, rfl⟩, fun b o _ e => e⟩)
theorem getH {value slice : Expr} {p : Addr × Value} {Q : Value → Shared → Prop} (hu : A.units + 1 < cLine) (S : St g s0 ex own z s) (hD : s.heap.DictOfH (tkd prog w) d xs) (hf : FrAt s.heap f v) (hn : Ky.opq ∉ f) (hp : atKey xs f = some p)
    (h : ∀ s₁, St g s0 ex own z s₁ → KeepsX [] s s₁ → Q p.2 s₁) (hs : ∀ a, subscripted slice false (.ref d) (.ref a) = operate [.ref d, .ref a] (getItem (.ref d) (.ref a)) := by intro _; with_unfolding_all rfl)
    (hg : ∀ r, letTemporaryGo value (.ref d) r = pure () := by intro _; with_unfolding_all rfl) :
    wpAny (model prog w) A (subscriptTail value slice (.ref d) v) Q NoE s := by
  obtain ⟨a, rfl, ha⟩ := hf.key (prog := prog) (w := w) hn
  exact subscriptTail_builtin hD.typeIs slot_dict_getitem.lookup (wpAny_getItem_heap (knd := tkd prog w) hu ha hD hp (h _ (S.toks _) ⟨⟨_, _, rfl⟩, fun b o _ e => e⟩)) (hs a) hg
theorem getH2 {u : Value} {Q : Value → Shared → Prop} (hu : A.units + 1 < cLine) (hd : (d == sysModules) = false) (S : St g s0 ex own z s) (hD : s.heap.DictOfH (tkd prog w) d xs) (hf : FrAt s.heap f v) (hn : Ky.opq ∉ f)
    (h : ∀ s₁, St g s0 ex own z s₁ → KeepsX [] s s₁ → Q (((atKey xs f).map (·.2)).getD u) s₁) : wpAny (model prog w) A (call (.builtin "dict.get") [.ref d, v, u]) Q NoE s := by
  obtain ⟨a, rfl, ha⟩ := hf.key (prog := prog) (w := w) hn
  exact call_meetsIn PySem.F.slot_dict_get hD.typeIs PySem.F.entry_dict_get (PySem.F.args_dict_get_3 _ _ _) (meetsH_dict_get_default (tkd prog w) d a hd u) ⟨hu, f, xs, ha, hD, h _ (S.toks _) ⟨⟨_, _, rfl⟩, fun b o _ e => e⟩⟩
theorem getHE {o k : Expr} {rest : List Expr} {apos pos : Pos} {pl : Sem Bool} {Q : Value → Shared → Prop}
    (h : wpAny (model prog w) A (eval o env) (fun ov s₁ => ∃ d xs, ov = .ref d ∧ s₁.heap.DictOfH (tkd prog w) d xs ∧ wpAny (model prog w) A (spliced (backTo pos (starEach (k :: rest) env))) (fun vs s₂ => wpAny (model prog w) A (call (.builtin "dict.get") (.ref d :: vs)) Q NoE s₂) NoE s₁) NoE s)
    (he : eval (.Call (.Attribute o "get" apos) (k :: rest) [] pos) env = (do
      let ov ← eval o env
      standAt apos.atName
      let (f, first) ← holding [ov] (getMethod ov "get" pl)
      callWith pos f first (backTo pos (starEach (k :: rest) env)) []) := by rfl)
    (hs : starEach (k :: rest) env = (false, eval k env) :: starEach rest env := by rfl) (hp : (backTo pos (starEach (k :: rest) env)).any (·.1) = false := by rfl) :
    wpAny (model prog w) A (eval (.Call (.Attribute o "get" apos) (k :: rest) [] pos) env) Q NoE s := by
  refine MethodCall_ (wpAny_mono h (fun ov s₁ h₁ => ?_) fun _ _ e => e) he
  obtain ⟨d, xs, rfl, hD, hc⟩ := h₁
  obtain ⟨o, _, _, e, c, _⟩ := id hD
  refine getMethod_builtin hD.typeIs PySem.F.plainAttrs_dict PySem.F.slot_dict_get PySem.F.type_dict_get (fun b hb => by cases hb; exact ⟨o, e, c.2.1⟩) ?_
  refine Calls.callWith_builtin hp ?_
  rw [hs] at hc ⊢
  exact Calls.evalArgs_plain hc

/-- f[-1] -/
theorem frLast {value slice : Expr} {f0 : Fm} {k : Ky} {u : Tok} {Q : Value → Shared → Prop} (S : St g s0 ex own z s) (hf : FrAt z (f0 ++ [k]) v) (hlt : f0.length < 100)
    (h : ∀ x, (k = Ky.opq ∨ isKy k x = true) → Q x s) (hs : ∀ a, subscripted slice false (.ref a) (.int (-1) u) = operate [.ref a, .int (-1) u] (getItem (.ref a) (.int (-1) u)) := by intro _; with_unfolding_all rfl)
    (hg : ∀ a r, letTemporaryGo value (.ref a) r = pure () := by intro _ _; with_unfolding_all rfl) : wpAny (model prog w) A (subscriptTail value slice v (.int (-1) u)) Q NoE s := by
  obtain ⟨a, vs, rfl, hT, hI⟩ := hf
  have hT' := IsTup.tup hT S.tu
  have hl := hI.length
  rw [List.length_append, List.length_singleton] at hl
  have hk : (f0 ++ [k])[f0.length]? = some k := by simp
  obtain ⟨x, hx, hr⟩ := paired_get hI hk
  refine item_tupleL hT' (by decide) (by decide) (seqIndex?_neg_one (by omega)) (x := x) ?_ (h x hr) (hs a) (hg a)
  rw [← hl, Nat.add_sub_cancel]; exact hx

theorem tupSlice {t sl : Addr} {vs : List Value} {u : Tok} {Q : Value → Shared → Prop} (ht : IsTup s.heap t vs.toArray) (hs : s.heap.IsSliceOf sl .none (.int (-1) u) .none) (h2 : 1 ≤ vs.length) (hz : vs.length ≤ 100)
    (h : Q (.ref s.heap.objs.size) { s with heap := s.heap.push { cls := .type "tuple", data := .seq vs.dropLast.toArray } }) : wpAny (model prog w) A (getItem (.ref t) (.ref sl)) Q NoE s := by
  have hsz : sizeOk (.seq vs.dropLast.toArray) := by
    show vs.dropLast.toArray.size ≤ sizeLine
    rw [List.size_toArray, List.length_dropLast, sizeLine_eq]
    omega
  obtain ⟨os, hos, hcs, hds⟩ := id hs
  have hTs : s.TypeIs (.ref sl) "slice" := ⟨os, hos, hcs⟩
  unfold getItem
  try with_reducible refine wpAny_holding ?_
  first | refine wpAny_bind (wpAny_pure ?_) | skip
  refine wpAny_bind (wpAny_sequenceKey ht.typeIs (by decide) ?_)
  refine wpAny_bind (wpAny_callSpecial?_slot (name := PySem.Str.ofString "__getitem__") ht.typeIs slot_tuple_getitem (wpAny_call_entry slot_tuple_getitem ht.typeIs entry_tuple_getitem ?_ (args_tuple_getitem _ _)))
  show wpAny _ _ (Builtin.Tuple.tupleItemsOf (.ref t) >>= _) _ _ s
  refine wpAny_bind (tupleItemsOf_ ht ?_)
  refine wpAny_bind (wpAny_typeOf hTs ?_)
  rw [if_pos (by decide)]
  have ha : wpAny (model prog w) A.in1 (Builtin.Slice.sliceApplied (.ref sl) (pure (vs.toArray.size : Int))) (fun r s' => r = ((0 : Int), (1 : Int), vs.length - 1) ∧ s' = s) NoE s := by
    unfold Builtin.Slice.sliceApplied Builtin.Slice.sliceFields
    refine wpAny_bind (wpAny_bind (wpAny_field hos hds (x := .none) rfl (wpAny_bind (wpAny_field hos hds (x := .int (-1) u) rfl (wpAny_bind (wpAny_field hos hds (x := .none) rfl (wpAny_pure ?_)))))))
    refine wpAny_bind (slicePart_none ?_)
    show wpAny _ _ (if ((1 : Int) == 0) = true then _ else _) _ _ s
    rw [if_neg (by decide)]
    refine wpAny_bind (slicePart_none (wpAny_bind (slicePart_int (wpAny_bind (wpAny_pure ?_)))))
    show wpAny _ _ (match Builtin.Slice.sliceAdjust none (some (-1)) 1 (vs.toArray.size : Int) with | (lo, hi) => pure (lo, (1 : Int), Builtin.Slice.slicePlaces lo hi 1)) _ _ s
    have e1 : Builtin.Slice.sliceAdjust none (some (-1)) 1 (vs.toArray.size : Int) = ((0 : Int), ((vs.length - 1 : Nat) : Int)) := by
      unfold Builtin.Slice.sliceAdjust
      simp
      omega
    rw [e1]
    have e2 : Builtin.Slice.slicePlaces 0 ((vs.length - 1 : Nat) : Int) 1 = vs.length - 1 := by
      unfold Builtin.Slice.slicePlaces
      simp only [show (1 : Int) > 0 from by omega, if_true, Int.ediv_one]
      split <;> omega
    show wpAny _ _ (pure ((0 : Int), (1 : Int), Builtin.Slice.slicePlaces 0 ((vs.length - 1 : Nat) : Int) 1)) _ _ s
    rw [e2]
    exact wpAny_pure ⟨rfl, rfl⟩
  refine wpAny_bind (wpAny_mono ha (fun r s' hr => ?_) fun _ _ e => e.elim)
  obtain ⟨rfl, rfl⟩ := hr
  show wpAny _ _ (if ((0 : Int) == 0 && (1 : Int) == 1 && (vs.length - 1) == vs.toArray.size) = true then _ else _) _ _ s'
  rw [if_neg (by rw [List.size_toArray]; simp; omega)]
  have e3 : ((List.range (vs.length - 1)).filterMap fun (k : Nat) => vs.toArray[((0 : Int) + (k : Int) * 1).toNat]?).toArray = vs.dropLast.toArray := by
    have e : (fun (k : Nat) => vs.toArray[((0 : Int) + (k : Int) * 1).toNat]?) = fun k => vs.toArray[0 + k]? := by
      funext k
      have : ((0 : Int) + (k : Int) * 1).toNat = 0 + k := by omega
      rw [this]
    rw [e]
    have := pick_run vs.toArray 0 (vs.length - 1)
    rw [List.filterMap_map] at this
    have e2 : ((fun x => vs.toArray[x]?) ∘ fun x => 0 + x) = fun k => vs.toArray[0 + k]? := rfl
    rw [e2] at this
    rw [this, List.dropLast_eq_take]
    rfl
  rw [e3]
  first
    | exact wpAny_bind (m := Builtin.Tuple.tupleExact _) (wpAny_newObj_type (wpAny_pure ⟨_, rfl, wpAny_pure h⟩) hsz)
    | exact wpAny_bind (m := Builtin.Tuple.tupleExact _) (wpAny_newObj_type (wpAny_bind (wpAny_pure (wpAny_pure ⟨_, rfl, wpAny_pure h⟩))) hsz)
    | exact wpAny_bind (wpAny_bind (m := Builtin.Tuple.tupleExact _) (wpAny_newObj_type (wpAny_pure (wpAny_pure ⟨_, rfl, wpAny_pure h⟩)) hsz))
    | exact wpAny_bind (wpAny_bind (m := Builtin.Tuple.tupleExact _) (wpAny_newObj_type (wpAny_pure ⟨_, rfl, wpAny_pure h⟩) hsz))

/-- f[:-1] -/
theorem subTp {value : Expr} {k : Nat} {p1 p2 p pos : Pos} {Q : Value → Shared → Prop}
    (h : wpAny (model prog w) A (eval value env) (fun o s₁ => ∃ (a : Addr) (vs : List Value) (own : List (Addr × (Obj → Prop))) (z : Heap), o = .ref a ∧ St g s0 ex own z s₁ ∧ IsTup s₁.heap a vs.toArray ∧ 1 ≤ vs.length ∧ vs.length ≤ 100 ∧
      ∀ b s₂, St g s0 ex own s₁.heap s₂ → IsTup s₂.heap b vs.dropLast.toArray → Q (.ref b) s₂) NoE s) (ht : ∀ o r, letTemporaryGo value o r = pure () := by intro _ _; rfl) :
    wpAny (model prog w) A (eval (.Subscript value (.Slice none (some (.UnaryOp .USub (.Constant (.int 1) k p1) p2)) none p) pos) env) Q NoE s := by
  refine wpAny_Subscript_Slice slot_tuple_getitem.lookup (wpAny_mono h (fun o s₁ h₁ => ?_) fun _ _ e => e) ht
  obtain ⟨a, vs, own, z, rfl, S, hT, h1, hz, hQ⟩ := h₁
  refine wpAny_Slice ?_
  simp only [evalPart_none, evalPart_some]
  refine wpAny_pure (UnaryOp_ (cInt S.up fun t s₂ S₂ => negI S₂ fun t' s₃ S₃ => wpAny_pure ?_))
  have S₄ := S₃.grow (tk := s₃.toks) (h' := s₃.heap.push { cls := .type "slice", data := .fields #[.none, .int (-1) t', .none] }) fun b o e => Heap.get?_push_of_some _ e
  have hT₄ := IsTup.tup hT S₄.tu
  refine ⟨hT₄.typeIs, tupSlice hT₄ ⟨_, Heap.get?_push_size _ rfl, rfl, rfl⟩ h1 hz ?_⟩
  exact hQ _ _ (S₄.grow (tk := s₃.toks) fun b o e => Heap.get?_push_of_some _ e) ⟨_, Heap.get?_push_size _ rfl, rfl, 0, rfl⟩

/-- l[e:] -/
theorem subFrom {value e : Expr} {p pos : Pos} {Q : Value → Shared → Prop}
    (h : wpAny (model prog w) A (eval value env) (fun o s₁ => ∃ (a : Addr) (vs : List Value), o = .ref a ∧ wpAny (model prog w) A (eval e env) (fun v s₂ => ∃ (n : Nat) (t : Tok) (q0 : Addr × (Obj → Prop)) (own : List (Addr × (Obj → Prop))) (z : Heap), v = .int (n : Int) t ∧ St g s0 ex (q0 :: own) z s₂ ∧ s₂.heap.IsList a vs.toArray ∧ vs.length ≤ 1000 ∧
      ∀ b s₃, St g s0 ex (q0 :: (b, plainP (vs.drop n)) :: own) z s₃ → Q (.ref b) s₃) NoE s₁) NoE s) (ht : ∀ o r, letTemporaryGo value o r = pure () := by intro _ _; rfl) :
    wpAny (model prog w) A (eval (.Subscript value (.Slice (some e) none none p) pos) env) Q NoE s := by
  refine wpAny_Subscript_Slice slot_list_getitem.lookup (wpAny_mono h (fun o s₁ h₁ => ?_) fun _ _ e => e) ht
  obtain ⟨a, vs, rfl, h₁⟩ := h₁
  refine wpAny_Slice ?_
  simp only [evalPart_none, evalPart_some]
  refine wpAny_mono h₁ (fun v s₂ h₂ => ?_) fun _ _ e => e
  obtain ⟨n, t, q0, own, z, rfl, S, hl, hz, hQ⟩ := h₂
  refine wpAny_pure (wpAny_pure ?_)
  have S₄ := S.grow (tk := s₂.toks) (h' := s₂.heap.push { cls := .type "slice", data := .fields #[.int n t, .none, .none] }) fun b o e => Heap.get?_push_of_some _ e
  have hl₄ : (s₂.heap.push { cls := .type "slice", data := .fields #[.int n t, .none, .none] }).IsList a vs.toArray := let ⟨o, e, r⟩ := hl; ⟨o, Heap.get?_push_of_some _ e, r⟩
  refine ⟨hl₄.typeIs, wpAny_getItem_list_slice hl₄ ⟨_, Heap.get?_push_size _ rfl, rfl, rfl⟩ (.int _ _) .none .none (by simp) ?_ (by rw [List.size_toArray, sizeLine_eq]; omega)⟩
  rw [slicePick_from']
  exact hQ _ _ (S₄.push _ ⟨0, rfl⟩ (plainP_tp ⟨0, rfl⟩)).swap

/-- l[:n] -/
theorem subUpTo {value e : Expr} {p pos : Pos} {Q : Value → Shared → Prop}
    (h : wpAny (model prog w) A (eval value env) (fun o s₁ => ∃ (a : Addr) (vs : List Value), o = .ref a ∧ wpAny (model prog w) A (eval e env) (fun v s₂ => ∃ (n : Nat) (t : Tok) (q0 : Addr × (Obj → Prop)) (own : List (Addr × (Obj → Prop))) (z : Heap), v = .int (n : Int) t ∧ St g s0 ex (q0 :: own) z s₂ ∧ s₂.heap.IsList a vs.toArray ∧ vs.length ≤ 1000 ∧
      ∀ b s₃, St g s0 ex (q0 :: (b, plainP (vs.take n)) :: own) z s₃ → Q (.ref b) s₃) NoE s₁) NoE s) (ht : ∀ o r, letTemporaryGo value o r = pure () := by intro _ _; rfl) :
    wpAny (model prog w) A (eval (.Subscript value (.Slice none (some e) none p) pos) env) Q NoE s := by
  refine wpAny_Subscript_Slice slot_list_getitem.lookup (wpAny_mono h (fun o s₁ h₁ => ?_) fun _ _ e => e) ht
  obtain ⟨a, vs, rfl, h₁⟩ := h₁
  refine wpAny_Slice ?_
  simp only [evalPart_none, evalPart_some]
  refine wpAny_pure (wpAny_mono h₁ (fun v s₂ h₂ => ?_) fun _ _ e => e)
  obtain ⟨n, t, q0, own, z, rfl, S, hl, hz, hQ⟩ := h₂
  refine wpAny_pure ?_
  have S₄ := S.grow (tk := s₂.toks) (h' := s₂.heap.push { cls := .type "slice", data := .fields #[.none, .int n t, .none] }) fun b o e => Heap.get?_push_of_some _ e
  have hl₄ : (s₂.heap.push { cls := .type "slice", data := .fields #[.none, .int n t, .none] }).IsList a vs.toArray := let ⟨o, e, r⟩ := hl; ⟨o, Heap.get?_push_of_some _ e, r⟩
  refine ⟨hl₄.typeIs, wpAny_getItem_list_slice hl₄ ⟨_, Heap.get?_push_size _ rfl, rfl, rfl⟩ .none (.int _ _) .none (by simp) ?_ (by rw [List.size_toArray, sizeLine_eq]; omega)⟩
  have e1 : slicePick vs.toArray none (some (n : Int)) none = (vs.take n).toArray := by
    rw [kms_pick_eq]
    have h0 : ¬ ((n : Int) < 0) := by omega
    simp only [kms_pick, kms_lo, kms_hi, if_neg h0, Int.toNat_natCast, List.drop_zero, Nat.sub_zero]
    congr 1
    rw [List.take_eq_take_iff]
    omega
  rw [e1]
  exact hQ _ _ (S₄.push _ ⟨0, rfl⟩ (plainP_tp ⟨0, rfl⟩)).swap
end

/-! told_again -/
def kyV : Value → Ky
  | .none => .none
  | .bool b => .num (if b then 1 else 0)
  | .int i _ => .num i
  | .str x _ => .str x
  | .bytes b _ => .bytes b.toList
  | _ => .opq
def ValsOk (xs : DL) : Prop := ∀ x ∈ xs, isKy (kyV x.2.2) x.2.2 = true
def lk (xs : DL) (f : Fm) : Option Ky := (atKey xs f).map fun p => kyV p.2
theorem atKey_mem {xs : DL} {f : Fm} {p : Addr × Value} (h : atKey xs f = some p) : ∃ x ∈ xs, x.2 = p := by
  unfold atKey at h
  obtain ⟨x, hx, e⟩ := Option.map_eq_some_iff.mp h
  exact ⟨x, List.mem_of_find?_eq_some hx, e⟩
theorem ValsOk.at {xs : DL} (h : ValsOk xs) {f : Fm} {p : Addr × Value} (hp : atKey xs f = some p) : isKy (kyV p.2) p.2 = true := by
  obtain ⟨x, hx, rfl⟩ := atKey_mem hp
  exact h x hx
def lastK (f : Fm) : Ky := f.getLastD .none
def told (lim blk : Fm → Option Ky) (dn : Fm → Bool) (f : Fm) : Option Fm :=
  if dn (subjOf f) = true then none else if (wayF f == ("holder" : PySem.Str)) = true then none else if (wayF f == ("never" : PySem.Str)) = true then none
  else if (wayF f == ("same" : PySem.Str)) = true then some f
  else if (wayF f == ("latest" : PySem.Str)) = true then some (f.dropLast ++ [(lim (subjOf f)).getD (lastK f)])
  else (blk (subjOf f)).map fun k => f.dropLast ++ [k]

local macro_rules | `(tactic| walk_at "q") => `(tactic| with_reducible refine isTrue_or ?_)
local macro_rules | `(tactic| walk_at "q") => `(tactic| with_reducible refine isTrue_or_nil ?_)
local macro_rules | `(tactic| walk_at "q") => `(tactic| with_reducible refine isTrue_and ?_)
local macro_rules | `(tactic| walk_at "q") => `(tactic| with_reducible refine isTrue_and_nil ?_)
local macro_rules | `(tactic| walk_at "q") => `(tactic| with_reducible refine wpAny_Continue ?_)

section
variable {g : Heap} {s : Shared} {prog : Program} {w : World} {A : Around} {a asj aw an l dl db dd : Addr} {mg mb : PySem.Str → Option Value}
/-- frames of the list are of what is asked -/
def Long (f : Fm) : Prop := 2 ≤ f.length ∧ f.length ≤ 100
theorem dropLast_items {f : Fm} {vs : List Value} (h : ItemsO f vs) : ItemsO f.dropLast vs.dropLast := by
  induction h with
  | nil => exact .nil
  | cons h1 t ih =>
    cases t with
    | nil => exact .nil
    | cons h2 t' => exact .cons h1 ih

theorem split_last {f : Fm} (h : f ≠ []) : f = f.dropLast ++ [lastK f] := by
  have := List.dropLast_concat_getLast h
  unfold lastK
  rw [List.getLastD_eq_getLast?, List.getLast?_eq_some_getLast h]
  exact this.symm

theorem told_spec {k : Nat} {fs : List Fm} {vs : List Value} {xl xb xd : DL} (hg : GSub g s) (N : Names g mg mb) (W : WayTabs g mg) (B : Blt mg mb) (hf : FnN g a 8) (hfw : FnN g aw 5) (hw : mg "way_of" = some (.ref aw)) (hfs : FnN g asj 6) (hs : mg "subject_of" = some (.ref asj))
    (hfn : FnN g an 7) (hn : mg "newest" = some (.ref an)) (R : Room A (k + 3)) (hl : s.heap.IsList l vs.toArray) (hv : FrsAt s.heap fs vs)
    (hxl : s.heap.DictOfH (tkd prog w) dl xl) (hxb : s.heap.DictOfH (tkd prog w) db xb) (hxd : s.heap.DictOfH (tkd prog w) dd xd) (nl : (dl == sysModules) = false) (nb : (db == sysModules) = false) (nd : (dd == sysModules) = false)
    (vl : ValsOk xl) (vb : ValsOk xb) (hh : ∀ f ∈ fs, Sub f) (hlong : ∀ f ∈ fs, (wayF f == ("latest" : PySem.Str)) = true ∨ (wayF f == ("blocked" : PySem.Str)) = true → Long f)
    (hres : ∀ f ∈ fs, ∀ n, told (lk xl) (lk xb) (fun f => (atKey xd f).isSome) f = some n → Sub n) (hz : vs.length < 64) :
    wpAny (model prog w) A (call (.ref a) [.ref l, .ref dl, .ref db, .ref dd]) (fun v s' => ∃ vs', NewL s s' v vs' ∧ FrsAt s'.heap (lasts subjOf (fs.filterMap (told (lk xl) (lk xb) (fun f => (atKey xd f).isSome)))) vs') NoE s := by
  refine callP (own := []) (ex := []) (binds := [("lost", .ref l), ("limits", .ref dl), ("blocked", .ref db), ("done", .ref dd)]) hg N hf R (fun _ _ _ => by simp) (fun _ hp => nomatch hp) List.nodup_nil (fun _ _ _ => by rfl) (by rfl) ?_
  intro cd L s₁ R₁ S
  show wpAny _ _ (execs (bodyAt 8) _) _ _ _
  refine wpAny_execs_cons (wpAny_Assign_Name ?_)
  iterate 3 walk_at "q"
  rename_i F s₂ S₂
  walk_at "q"
  walk_at "q"
  refine wpAny_For ?_
  walk_at "q"
  have S₃ := ‹St g s [] ((L, _) :: _) _ _›
  refine iterLs S₃ (S₃.isList0 hl) fun I s₄ S₄ => ?_
  have keepD : ∀ {own z s' d xs}, St g s [] own z s' → s.heap.DictOfH (tkd prog w) d xs → s'.heap.DictOfH (tkd prog w) d xs := fun S' hd => DictOfH_keep hd fun b o e => S'.keep b o (by simp) e
  refine forA (itrLs R₁.handled I l vs _ (.inl fun _ => rfl)) (fun i own' z' => ∃ m ys, own' = [(L, nsP m), (F, plainP ys)] ∧ m "found" = some (.ref F) ∧ m "limits" = some (.ref dl) ∧ m "blocked" = some (.ref db) ∧ m "done" = some (.ref dd) ∧
      FrsAt z' ((fs.take i).filterMap (told (lk xl) (lk xb) (fun f => (atKey xd f).isSome))) ys ∧ ys.length ≤ i ∧ TupSub s.heap z') S₄ ⟨_, _, rfl, rfl, rfl, rfl, rfl, .nil, Nat.le_refl _, TupSub.refl _⟩ ?_ ?_ ?_
  · rintro i own' z' s' _ tl S'
    exact S'.isList0 hl
  · rintro i v own' z' s' tl hi ⟨m, ys, rfl, hm1, hm2, hm3, hm4, hy, hle, ht⟩ hx S'
    obtain ⟨f, hfi, hfv⟩ := paired_get' hv hx
    have hmem := List.mem_of_getElem? hfi
    have hsub := hh f hmem
    obtain ⟨r, hr⟩ := hsub.1.eq
    have etake : ((fs.take (i + 1)).filterMap (told (lk xl) (lk xb) (fun f => (atKey xd f).isSome))) = ((fs.take i).filterMap (told (lk xl) (lk xb) (fun f => (atKey xd f).isSome))) ++ (told (lk xl) (lk xb) (fun f => (atKey xd f).isSome) f).toList := by
      rw [List.take_add_one, hfi, List.filterMap_append]
      congr 1
    walk_at "qs"
    refine Assign_Tuple_swapped ?_
    walk_at "qs"
    refine callG ‹_› N hw hfw ?_
    walk_at "qs"
    have S₅ := ‹St g s [] _ _ _›
    refine frItem S₅ (hfv.up ht) (i := 0) (k := .str (kindF f)) (by rw [hr]; rfl) (by decide) ?_
    intro x0 hx0
    obtain ⟨tx, rfl⟩ := itemStr hx0
    walk_at "qs"
    refine ⟨⟨_, _, ‹_›⟩, wpAny_mono (way_spec (St.gkeep ‹_›) N W hfw R₁) (fun v' s₆ h₆ => ?_) fun _ _ e => e⟩
    obtain ⟨K₆, t₆, rfl⟩ := h₆
    have S₆ := St.keeps ‹St g s [] _ _ _› K₆
    walk_at "qs"
    refine callG ‹_› N hs hfs ?_
    walk_at "qs"
    have S₇ := ‹St g s [] _ _ _›
    refine ⟨⟨_, _, S₇⟩, wpAny_mono (subj_spec S₇.gkeep N hfs R₁ (hfv.up (ht.trans S₇.tu)) hr (hsub.two hr)) (fun v' s₈ h₈ => ?_) fun _ _ e => e⟩
    obtain ⟨K₈, hv'⟩ := h₈
    have S₈ := (S₇.keeps K₈).up
    have ht₈ : TupSub s.heap s₈.heap := ht.trans (S₇.keeps K₈).tu
    have hy₈ := hy.up (S₇.keeps K₈).tu
    have hfv₈ := hfv.up ht₈
    clear S₇ K₈ S₆
    walk_at "qs"
    refine unpk ‹_› ‹_› R₁.handled rfl ?_
    intro s₉ S₉ _
    refine wpAny_assignInOrder_more (wpAny_bindName ?_)
    walk_at "q"
    refine wpAny_assignInOrder_more (wpAny_bindName ?_)
    walk_at "q"
    refine wpAny_assignInOrder_none ?_
    walk_at "qs"
    have goNone : told (lk xl) (lk xb) (fun f => (atKey xd f).isSome) f = none → ∀ m' sX, St g s [] ((L, nsP m') :: (F, plainP ys) :: tl) s₈.heap sX → m' "found" = some (.ref F) → m' "limits" = some (.ref dl) → m' "blocked" = some (.ref db) → m' "done" = some (.ref dd) →
        ∃ own₂ z₂, St g s [] (own₂ ++ tl) z₂ sX ∧ ∃ m ys, own₂ = [(L, nsP m), (F, plainP ys)] ∧ m "found" = some (.ref F) ∧ m "limits" = some (.ref dl) ∧ m "blocked" = some (.ref db) ∧ m "done" = some (.ref dd) ∧
          FrsAt z₂ ((fs.take (i + 1)).filterMap (told (lk xl) (lk xb) (fun f => (atKey xd f).isSome))) ys ∧ ys.length ≤ i + 1 ∧ TupSub s.heap z₂ := by
      intro e m' sX SX h1 h2 h3 h4
      refine ⟨[_, _], _, SX, _, _, rfl, h1, h2, h3, h4, ?_, by omega, ht₈⟩
      rw [etake, e, Option.toList_none, List.append_nil]
      exact hy₈
    have goSome : ∀ n y m' z'' sX, told (lk xl) (lk xb) (fun f => (atKey xd f).isSome) f = some n → FrAt z'' n y → TupSub s₈.heap z'' → St g s [] ((L, nsP m') :: (F, plainP (ys ++ [y])) :: tl) z'' sX → m' "found" = some (.ref F) → m' "limits" = some (.ref dl) → m' "blocked" = some (.ref db) → m' "done" = some (.ref dd) →
        ∃ own₂ z₂, St g s [] (own₂ ++ tl) z₂ sX ∧ ∃ m ys, own₂ = [(L, nsP m), (F, plainP ys)] ∧ m "found" = some (.ref F) ∧ m "limits" = some (.ref dl) ∧ m "blocked" = some (.ref db) ∧ m "done" = some (.ref dd) ∧
          FrsAt z₂ ((fs.take (i + 1)).filterMap (told (lk xl) (lk xb) (fun f => (atKey xd f).isSome))) ys ∧ ys.length ≤ i + 1 ∧ TupSub s.heap z₂ := by
      intro n y m' z'' sX e hn' ht' SX h1 h2 h3 h4
      refine ⟨[_, _], _, SX, _, _, rfl, h1, h2, h3, h4, ?_, by rw [List.length_append, List.length_singleton]; omega, ht₈.trans ht'⟩
      rw [etake, e, Option.toList_some]
      exact (hy₈.up ht').snoc hn'
    have S₁₀ := ‹St g s [] ((L, nsP fun y => if y = "way" then _ else _) :: _) s₈.heap _›
    refine inH R₁.u1 nd S₁₀ (keepD S₁₀ hxd) (hv'.up S₁₀.tu) hsub.2.2 fun s₁₁ S₁₁ _ => ?_
    clear S₁₀
    walk_at "q"
    refine iteB ?_ ?_
    · intro hb
      rw [if_pos rfl]
      walk_at "qs"
      refine goNone (by unfold told; rw [if_pos hb]) _ _ S₁₁ hm1 hm2 hm3 hm4
    intro hb
    walk_at "qs"
    refine iteB ?_ ?_
    · intro hb2
      rw [if_pos rfl]
      walk_at "qs"
      refine goNone (by unfold told; rw [if_neg (neT hb), if_pos (show (wayF f == ("holder" : PySem.Str)) = true from hb2)]) _ _ ‹_› ?_ ?_ ?_ ?_ <;> assumption
    intro hb2
    walk_at "qs"
    refine iteB ?_ ?_
    · intro hb3
      rw [if_pos rfl]
      walk_at "qs"
      refine goNone (by unfold told; rw [if_neg (neT hb), if_neg (neT (show (wayF f == ("holder" : PySem.Str)) = false from hb2)), if_pos (show (wayF f == ("never" : PySem.Str)) = true from hb3)]) _ _ ‹_› ?_ ?_ ?_ ?_ <;> assumption
    intro hb3
    walk_at "qs"
    rw [if_neg Bool.false_ne_true]
    walk_at "qs"
    obtain ⟨fa, fvs, rfl, hTf, hIf⟩ := hfv₈
    have hfe : f ≠ [] := by rw [hr]; simp
    refine iteB ?_ ?_
    · intro hb4
      have e1 : told (lk xl) (lk xb) (fun f => (atKey xd f).isSome) f = some f := by
        unfold told
        rw [if_neg (neT hb), if_neg (neT (show (wayF f == ("holder" : PySem.Str)) = false from hb2)), if_neg (neT (show (wayF f == ("never" : PySem.Str)) = false from hb3)), if_pos (show (wayF f == ("same" : PySem.Str)) = true from hb4)]
      walk_at "qs"
      refine appS ?_
      walk_at "qs"
      refine ⟨F, _, rfl, St.plain ‹_› (.tail _ (.head _)), ?_⟩
      walk_at "qs"
      refine appC (pre := [_]) ‹_› (by omega) fun s₁₂ S₁₂ => ?_
      walk_at "qs"
      refine goSome _ _ _ _ _ e1 ⟨fa, fvs, rfl, hTf, hIf⟩ (TupSub.refl _) S₁₂ ?_ ?_ ?_ ?_ <;> assumption
    intro hb4
    walk_at "qs"
    refine iteB ?_ ?_
    · intro hb5
      have hlf := hlong f hmem (.inl hb5)
      have e1 : told (lk xl) (lk xb) (fun f => (atKey xd f).isSome) f = some (f.dropLast ++ [(lk xl (subjOf f)).getD (lastK f)]) := by
        unfold told
        rw [if_neg (neT hb), if_neg (neT (show (wayF f == ("holder" : PySem.Str)) = false from hb2)), if_neg (neT (show (wayF f == ("never" : PySem.Str)) = false from hb3)), if_neg (neT (show (wayF f == ("same" : PySem.Str)) = false from hb4)), if_pos (show (wayF f == ("latest" : PySem.Str)) = true from hb5)]
      walk_at "qs"
      refine appS ?_
      walk_at "qs"
      refine ⟨F, _, rfl, St.plain ‹_› (.tail _ (.head _)), ?_⟩
      with_reducible refine wpAny_BinOp ?_
      refine subTp (g := g) (s0 := s) (ex := []) ?_
      walk_at "qs"
      have S₁₂ := ‹St g s [] ((L, nsP fun y => if y = "way" then _ else _) :: _) s₈.heap _›
      have hlen : f.length = fvs.length := hIf.length
      refine ⟨fa, fvs, _, _, rfl, S₁₂, IsTup.tup hTf S₁₂.tu, by have := hlf.1; omega, by have := hlf.2; omega, fun b s₁₃ S₁₃ hT₁₃ => ?_⟩
      have t₁₂ := S₁₂.tu.trans S₁₃.tu
      have S₁₃ := S₁₃.up
      clear S₁₂
      walk_at "qs"
      refine getHE ?_
      walk_at "qs"
      refine ⟨dl, xl, rfl, keepD ‹_› hxl, ?_⟩
      walk_at "qs"
      refine frLast (f0 := f.dropLast) (k := lastK f) ‹_› ?_ ?_ ?_
      · rw [← split_last hfe]; exact ⟨fa, fvs, rfl, IsTup.tup hTf t₁₂, hIf⟩
      · rw [List.length_dropLast]; have := hlf.2; omega
      intro x hx
      walk_at "qs"
      have S₁₄ := (‹St g s [] ((L, nsP fun y => if y = "way" then _ else _) :: _) _ _›)
      refine getH2 R₁.u1 nl S₁₄ (keepD S₁₄ hxl) (hv'.up (t₁₂.trans S₁₄.tu)) hsub.2.2 fun s₁₅ S₁₅ K₁₅ => ?_
      have hk : (lk xl (subjOf f)).getD (lastK f) = Ky.opq ∨ isKy ((lk xl (subjOf f)).getD (lastK f)) (((atKey xl (subjOf f)).map (·.2)).getD x) = true := by
        unfold lk
        cases ea : atKey xl (subjOf f) with
        | none => exact hx
        | some p => exact .inr (vl.at ea)
      generalize ((atKey xl (subjOf f)).map (·.2)).getD x = y0 at hk ⊢
      generalize (lk xl (subjOf f)).getD (lastK f) = k0 at hk e1
      walk_at "qs"
      have S₁₆ := (‹St g s [] ((L, nsP fun y => if y = "way" then _ else _) :: _) _ _›)
      refine addTp S₁₆ (IsTup.tup hT₁₃ S₁₆.tu) ‹_› (by intro e; have h1 := congrArg List.length e; rw [List.length_dropLast, List.length_nil] at h1; have := hlf.1; omega) (by simp) (by rw [List.length_dropLast, List.length_singleton, sizeLine_eq]; have := hlf.2; omega) fun a' s₁₇ S₁₇ _ hT₁₇ => ?_
      refine appC (pre := [_]) S₁₇.up (by omega) fun s₁₈ S₁₈ => ?_
      walk_at "qs"
      refine goSome _ _ _ _ _ e1 ⟨a', _, rfl, hT₁₇, paired_append (dropLast_items hIf) (.cons hk .nil)⟩ (t₁₂.trans S₁₇.tu) S₁₈ ?_ ?_ ?_ ?_ <;> assumption
    intro hb5
    walk_at "qs"
    have S₁₁ := ‹St g s [] ((L, nsP fun y => if y = "way" then _ else _) :: _) s₈.heap _›
    refine inH R₁.u1 nb S₁₁ (keepD S₁₁ hxb) (hv'.up S₁₁.tu) hsub.2.2 fun s₁₂ S₁₂ _ => ?_
    clear S₁₁
    walk_at "q"
    have e0 : told (lk xl) (lk xb) (fun f => (atKey xd f).isSome) f = (lk xb (subjOf f)).map fun k => f.dropLast ++ [k] := by
      unfold told
      rw [if_neg (neT hb), if_neg (neT (show (wayF f == ("holder" : PySem.Str)) = false from hb2)), if_neg (neT (show (wayF f == ("never" : PySem.Str)) = false from hb3)), if_neg (neT (show (wayF f == ("same" : PySem.Str)) = false from hb4)), if_neg (neT (show (wayF f == ("latest" : PySem.Str)) = false from hb5))]
    refine iteB ?_ ?_
    · intro hb6
      obtain ⟨p, hp⟩ := Option.isSome_iff_exists.mp hb6
      have hblk : (wayF f == ("blocked" : PySem.Str)) = true := by
        unfold wayF at *
        unfold wayOf at *
        revert hb2 hb3 hb4 hb5
        split
        · decide
        · split
          · decide
          · split
            · decide
            · split
              · decide
              · decide
      have hlf := hlong f hmem (.inr hblk)
      have e1 : told (lk xl) (lk xb) (fun f => (atKey xd f).isSome) f = some (f.dropLast ++ [kyV p.2]) := by
        rw [e0]; unfold lk; rw [hp]; rfl
      walk_at "qs"
      refine appS ?_
      walk_at "qs"
      refine ⟨F, _, rfl, St.plain ‹_› (.tail _ (.head _)), ?_⟩
      with_reducible refine wpAny_BinOp ?_
      refine subTp (g := g) (s0 := s) (ex := []) ?_
      walk_at "qs"
      have S₁₂ := ‹St g s [] ((L, nsP fun y => if y = "way" then _ else _) :: _) s₈.heap _›
      have hlen : f.length = fvs.length := hIf.length
      refine ⟨fa, fvs, _, _, rfl, S₁₂, IsTup.tup hTf S₁₂.tu, by have := hlf.1; omega, by have := hlf.2; omega, fun b s₁₃ S₁₃ hT₁₃ => ?_⟩
      have t₁₂ := S₁₂.tu.trans S₁₃.tu
      have S₁₃ := S₁₃.up
      clear S₁₂
      walk_at "qs"
      have S₁₄ := (‹St g s [] ((L, nsP fun y => if y = "way" then _ else _) :: _) _ _›)
      refine getH (xs := xb) R₁.u1 S₁₄ (keepD S₁₄ hxb) (hv'.up (t₁₂.trans S₁₄.tu)) hsub.2.2 hp fun s₁₅ S₁₅ K₁₅ => ?_
      have hk : kyV p.2 = Ky.opq ∨ isKy (kyV p.2) p.2 = true := .inr (vb.at hp)
      walk_at "qs"
      have S₁₆ := (‹St g s [] ((L, nsP fun y => if y = "way" then _ else _) :: _) _ _›)
      refine addTp S₁₆ (IsTup.tup hT₁₃ S₁₆.tu) ‹_› (by intro e; have h1 := congrArg List.length e; rw [List.length_dropLast, List.length_nil] at h1; have := hlf.1; omega) (by simp) (by rw [List.length_dropLast, List.length_singleton, sizeLine_eq]; have := hlf.2; omega) fun a' s₁₇ S₁₇ _ hT₁₇ => ?_
      refine appC (pre := [_]) S₁₇.up (by omega) fun s₁₈ S₁₈ => ?_
      walk_at "qs"
      refine goSome _ _ _ _ _ e1 ⟨a', _, rfl, hT₁₇, paired_append (dropLast_items hIf) (.cons hk .nil)⟩ (t₁₂.trans S₁₇.tu) S₁₈ ?_ ?_ ?_ ?_ <;> assumption
    intro hb6
    have e1 : told (lk xl) (lk xb) (fun f => (atKey xd f).isSome) f = none := by
      rw [e0]; unfold lk
      cases ea : atKey xb (subjOf f) with
      | none => rfl
      | some p => rw [ea] at hb6; cases hb6
    walk_at "qs"
    refine goNone e1 _ _ ‹_› ?_ ?_ ?_ ?_ <;> assumption
  · rintro own' z' s' ⟨m, ys, rfl, hm1, hm2, hm3, hm4, hy, hle, ht⟩ S'
    have hlen : fs.length = vs.length := hv.length
    rw [← hlen, List.take_length] at hy
    refine wpAny_execs_cons (wpAny_Return_some ?_)
    refine callG S' N hn hfn ?_
    walk_at "qs"
    have S₅ := ‹St g s [] _ _ _›
    refine ⟨⟨_, _, S₅⟩, wpAny_mono (newest_spec S₅.gkeep N B hfn hfs hs R₁ (St.plainL S₅ (.tail _ (.head _))) (hy.up S₅.tu) ?_ (by omega)) (fun v' s₈ h₈ => ?_) fun _ _ e => e⟩
    · intro f hf'
      obtain ⟨f', hm', e⟩ := List.mem_filterMap.mp hf'
      exact hres f' hm' f e
    · obtain ⟨vs', hN, hF⟩ := h₈
      obtain ⟨D, rfl, S₈⟩ := S₅.newL hN
      exact ⟨vs', S₈.giveL (.head _), hF⟩
end

/-! equality of frames; pairs; the last comprehension of _law_due -/
theorem frEq {A : Around} {s : Shared} {f f' : Fm} {u v : Value} (hu : A.units < cLine) (h1 : FrAt s.heap f u) (h2 : FrAt s.heap f' v) (n1 : Ky.opq ∉ f) (n2 : Ky.opq ∉ f') : EqAt A s u v (decide (f = f')) := fun prog w E Q h => by
  obtain ⟨a, rfl, ha⟩ := h1.key (prog := prog) (w := w) n1
  obtain ⟨b, rfl, hb⟩ := h2.key (prog := prog) (w := w) n2
  exact wpAny_eqBool_tuple hu ha hb h
theorem FrAt.inj {h : Heap} {f f' : Fm} {v : Value} (h1 : FrAt h f v) (h2 : FrAt h f' v) (n1 : Ky.opq ∉ f) (n2 : Ky.opq ∉ f') : f = f' := by
  obtain ⟨a, vs, rfl, ⟨o, e, c, n, d⟩, i⟩ := h1
  obtain ⟨a', vs', e', ⟨o', e2, c', n', d'⟩, i'⟩ := h2
  cases e'
  rw [e] at e2
  cases e2
  rw [d] at d'
  injection d' with d1 _
  have d2 : vs = vs' := by simpa using congrArg Array.toList d1
  subst d2
  clear d e c c' d1
  induction i generalizing f' with
  | nil => cases i'; rfl
  | cons x _ ih =>
    cases i' with
    | cons y t =>
      rw [List.mem_cons, not_or] at n1 n2
      rw [isKy_inj _ _ _ (x.resolve_left fun e => n1.1 e.symm) (y.resolve_left fun e => n2.1 e.symm), ih n1.2 n2.2 t]

section
variable {g : Heap} {s0 : Shared} {ex : List Addr} {own : List (Addr × (Obj → Prop))} {z : Heap} {s : Shared} {prog : Program} {w : World} {A : Around} {env : Env}
open Classical in
/-- a frame (not) in a list of frames -/
theorem notInFs {l : Addr} {vs : List Value} {fs : List Fm} {f : Fm} {v : Value} {Q : Value → Shared → Prop} (hu : A.units + 1 < cLine) (hl : s.heap.IsList l vs.toArray) (hv : FrsAt s.heap fs vs) (hf : FrAt s.heap f v) (n : Ky.opq ∉ f) (ns : ∀ g ∈ fs, Ky.opq ∉ g)
    (h : Q (.bool (!(fs.contains f))) s) : wpAny (model prog w) A (compareOp .NotIn v (.ref l)) Q NoE s := by
  have key : ∀ y ∈ vs, ∃ f' ∈ fs, FrAt s.heap f' y := fun y hy => by
    obtain ⟨i, hi⟩ := List.mem_iff_getElem?.mp hy
    obtain ⟨f', hf', r⟩ := paired_get' hv hi
    exact ⟨f', List.mem_of_getElem? hf', r⟩
  refine SeqAt.notIn_listAt (fun y => decide (FrAt s.heap f y)) hl (fun y hy => ?_) ?_
  · obtain ⟨f', hm, hy'⟩ := key y (by simpa using hy)
    have e : decide (FrAt s.heap f y) = decide (f' = f) := by
      by_cases hd : f' = f
      · subst hd; rw [decide_eq_true hy', decide_eq_true rfl]
      · rw [decide_eq_false hd, decide_eq_false fun hfy => hd (hy'.inj hfy (ns f' hm) n)]
    rw [e]
    exact eqTo (frEq (A := A.in1) hu hy' hf (ns f' hm) n) (decide_eq_decide.mpr Iff.rfl)
  · have e : (vs.toArray.any fun y => decide (FrAt s.heap f y)) = fs.contains f := by
      rw [Bool.eq_iff_iff, List.any_toArray, List.any_eq_true, List.contains_iff_mem]
      constructor
      · rintro ⟨y, hy, hd⟩
        obtain ⟨f', hm, hy'⟩ := key y hy
        rw [← hy'.inj (of_decide_eq_true hd) (ns f' hm) n]; exact hm
      · intro hm
        obtain ⟨i, hi⟩ := List.mem_iff_getElem?.mp hm
        obtain ⟨y, hy, r⟩ := paired_get hv hi
        exact ⟨y, List.mem_of_getElem? hy, decide_eq_true r⟩
    rw [e]; exact h

/-- lists of frames told apart -/
theorem neFs {l b : Addr} {vs ws : List Value} {fs gs : List Fm} {Q : Value → Shared → Prop} (hu : A.units + 1 < cLine) (h1 : s.heap.IsList l vs.toArray) (h2 : s.heap.IsList b ws.toArray) (hv : FrsAt s.heap fs vs) (hw : FrsAt s.heap gs ws)
    (n1 : ∀ g ∈ fs, Ky.opq ∉ g) (e : fs = gs) (h : Q (.bool false) s) : wpAny (model prog w) A (compareOp .NotEq (.ref l) (.ref b)) Q NoE s := by
  subst e
  have hl : vs.length = ws.length := by rw [← hv.length, hw.length]
  have hh := SeqAt.RcNeAt.lists (A := A) (s := s) (e := fun _ => true) h1 h2 (by simpa using hl) (by omega) (fun j j1 j2 => by
    have j1' : j < vs.length := by simpa using j1
    have j2' : j < ws.length := by simpa using j2
    obtain ⟨f, hf, r⟩ := paired_get' hv (List.getElem?_eq_getElem j1')
    obtain ⟨f', hf', r'⟩ := paired_get' hw (List.getElem?_eq_getElem j2')
    rw [hf] at hf'
    cases hf'
    have n := n1 f (List.mem_of_getElem? hf)
    have := frEq (A := A.in1) hu r r' n n
    rw [decide_eq_true rfl] at this
    simpa using this)
  refine hh prog w NoE Q ?_
  have : (!(List.range vs.toArray.size).all fun _ => true) = false := by simp
  rw [this]; exact h
end

def PairAt (h : Heap) (p : Fm × Fm) (v : Value) : Prop := ∃ T va vn, v = .ref T ∧ IsTup h T [va, vn].toArray ∧ FrAt h p.1 va ∧ FrAt h p.2 vn
theorem PairAt.up {h h' : Heap} {p : Fm × Fm} {v : Value} (x : PairAt h p v) (t : TupSub h h') : PairAt h' p v := let ⟨T, va, vn, e, i, a, b⟩ := x; ⟨T, va, vn, e, IsTup.tup i t, a.up t, b.up t⟩
def PrsAt (h : Heap) (ps : List (Fm × Fm)) (vs : List Value) : Prop := Paired (PairAt h) ps vs
theorem PrsAt.up {h h' : Heap} {ps : List (Fm × Fm)} {vs : List Value} (x : PrsAt h ps vs) (t : TupSub h h') : PrsAt h' ps vs := Paired.imp x fun y => PairAt.up y t
theorem paired_drop {α β : Type} {F : α → β → Prop} : ∀ {l : List α} {r : List β}, Paired F l r → ∀ n, Paired F (l.drop n) (r.drop n)
  | _, _, .nil, n => by simpa using Paired.nil
  | _, _, .cons h t, 0 => .cons h t
  | _, _, .cons _ t, n + 1 => paired_drop t n

local macro_rules | `(tactic| walk_at "q") => `(tactic| ((with_reducible refine wpAny_assignInOrder_more ?_)))
local macro_rules | `(tactic| walk_at "q") => `(tactic| ((with_reducible refine wpAny_assignInOrder_none ?_)))
section
variable {g : Heap} {s : Shared} {prog : Program} {w : World} {A : Around} {L a F : Addr} {cd : Value} {mg mb : PySem.Str → Option Value}
/-- what _law_due gives back from what it found -/
theorem dueEnd {ps : List (Fm × Fm)} {vs : List Value} {m : PySem.Str → Option Value} {own : List (Addr × (Obj → Prop))} {z : Heap} {s₁ : Shared} (N : Names g mg mb) (B : Blt mg mb) (hA : A.handled = none) (hu : A.units + 1 < cLine)
    (S : St g s [] ((L, nsP m) :: (L + 1, cellP (some (.ref F))) :: (F, plainP vs) :: own) z s₁) (hv : PrsAt z ps vs) (hz : vs.length ≤ 100) (hn : ∀ p ∈ ps, Ky.opq ∉ p.1) (ht : TupSub s.heap z) :
    wpAny (model prog w) A (execs (List.drop 2 (bodyAt 14)) (envOfC (nameAt 14) (scopeAt 14) L a cd)) (fun fl s' => ∃ vs', NewL s s' (retv fl) vs' ∧ FrsAt s'.heap ((lasts (·.1) ps).map (·.2)) vs') NoE s₁ := by
  have hlen : ps.length = vs.length := hv.length
  refine wpAny_execs_cons (wpAny_Return_some ?_)
  refine compE2 (g := g) (s0 := s) (ex := []) (q0 := (L, nsP m)) (cl := [("found", L + 1)]) rfl ?_
  refine callT1 S N B.nenumerate B.benumerate ?_
  refine ldC S rfl (.tail _ (.head _)) ?_
  refine iterEn S (St.plainL S (.tail _ (.tail _ (.head _)))) fun I it s₂ S₂ => ?_
  refine ⟨I, vs.length, fun i => [(I, enumP it i), (it, lsIterP F i)], fun h => h.IsList F vs.toArray, fun i v h => ∃ T t x, v = .ref T ∧ IsTup h T [.int (i : Int) t, x].toArray ∧ vs[i]? = some x, (L + 1, cellP (some (.ref F))) :: (F, plainP vs) :: own, z,
    fun i ys own' z' => own' = (L + 1, cellP (some (.ref F))) :: (F, plainP vs) :: own ∧ z' = z ∧ FrsAt z (((List.range i).filter (isLast (ps.map (·.1)))).filterMap fun j => (ps[j]?).map (·.2)) ys ∧ ys.length ≤ i,
    rfl, itrEn hA I it F vs _ _ _, by omega, S₂, ⟨rfl, rfl, .nil, Nat.le_refl _⟩, fun _ _ _ _ h => h.2.2.2, ?_, ?_, ?_⟩
  · rintro i ys own' z' s' ⟨rfl, rfl, _⟩ D C mC tl S'
    exact St.plainL S' (.tail _ (.tail _ (.tail _ (.tail _ (.head _)))))
  · rintro i v ys own' z' s' tl C D mC hi ⟨rfl, rfl, hy, hle⟩ ⟨T, t, x, rfl, hT, hx⟩ S'
    obtain ⟨p, hp, hpv⟩ := paired_get' hv hx
    obtain ⟨T2, va, vn, rfl, hT2, ha, hnw⟩ := hpv
    refine asgTp S' hT hA fun s₃ S₃ K₃ => ?_
    refine wpAny_assignInOrder_more ?_
    iterate 2 walk_at "q"
    refine wpAny_assignInOrder_more ?_
    refine asgTp (k := 0) ‹_› (IsTup.tup hT2 (St.tu ‹_›)) hA fun s₄ S₄ K₄ => ?_
    refine wpAny_assignInOrder_more ?_
    iterate 2 walk_at "q"
    refine wpAny_assignInOrder_more ?_
    iterate 2 walk_at "q"
    refine wpAny_assignInOrder_none ?_
    refine wpAny_assignInOrder_none ?_
    refine ifs1 ?_
    walk_at "qs"
    have S₅ := ‹St g s [] ((C, nsP fun y => if y = "now" then _ else _) :: _) _ _›
    generalize hM : (fun y : PySem.Str => if y = "now" then some vn else _) = mC' at S₅ ⊢
    have hMn : mC' "now" = some vn := by rw [← hM]; rfl
    have hMa : mC' "about" = some va := by rw [← hM]; rfl
    have hMp : mC' "place" = some (.int (i : Int) t) := by rw [← hM]; rfl
    clear hM S₃ S₄
    refine compE2 (g := g) (s0 := s) (ex := []) (q0 := (C, nsP mC')) (cl := []) rfl ?_
    refine subFrom (g := g) (s0 := s) (ex := []) ?_
    refine ldC (c := L + 1) (v := .ref F) S₅ rfl (.tail _ (.tail _ (.tail _ (.head _)))) ?_
    refine ⟨F, vs, rfl, ?_⟩
    with_reducible refine wpAny_BinOp ?_
    refine ldL S₅ (.head _) hMp ?_
    walk_at "qs"
    have S₆ := ‹St g s [] ((C, nsP mC') :: _) _ _›
    refine ⟨i + 1, _, _, _, _, rfl, S₆, St.plainL S₆ (.tail _ (.tail _ (.tail _ (.tail _ (.head _))))), by omega, fun b s₇ S₇ => ?_⟩
    refine iterLs S₇ (St.plainL S₇ (.tail _ (.head _))) fun I2 s₈ S₈ => ?_
    have hdr : PrsAt z' (ps.drop (i + 1)) (vs.drop (i + 1)) := paired_drop hv _
    refine ⟨I2, (vs.drop (i + 1)).length, fun i => [(I2, lsIterP b i)], fun h => h.IsList b (vs.drop (i + 1)).toArray, fun j v _ => (vs.drop (i + 1))[j]? = some v, _, z',
      fun j zs own' z'' => own' = (b, plainP (vs.drop (i + 1))) :: (D, plainP ys) :: (L, nsP m) :: ((L + 1, cellP (some (.ref F))) :: (F, plainP vs) :: own ++ tl) ∧ z'' = z' ∧ FrsAt z' (((ps.drop (i + 1)).take j).map (·.1)) zs ∧ zs.length ≤ j,
      rfl, itrLs hA I2 b _ _ (.inr ⟨⟨_, _, _, rfl⟩, ?_⟩), by rw [List.length_drop]; omega, S₈, ⟨rfl, rfl, .nil, Nat.le_refl _⟩, fun _ _ _ _ h => h.2.2.2, ?_, ?_, ?_⟩
    · intro v hv'
      obtain ⟨j, hj⟩ := List.mem_iff_getElem?.mp hv'
      obtain ⟨p', _, T', _, _, e', _⟩ := paired_get' hdr hj
      exact ⟨T', e'⟩
    · rintro j zs own' z'' s'' ⟨rfl, rfl, _⟩ D' C' mC2 tl' S''
      exact St.plainL S'' (.tail _ (.tail _ (.tail _ (.head _))))
    · rintro j v zs own' z'' s'' tl' C' D' mC2 hj ⟨rfl, rfl, hzs, hzl⟩ hvj S''
      obtain ⟨p', hp', T', va', vn', rfl, hT', ha', hn'⟩ := paired_get' hdr hvj
      refine asgTp S'' (IsTup.tup hT' S''.tu) hA fun s₉ S₉ K₉ => ?_
      refine wpAny_assignInOrder_more ?_
      iterate 2 walk_at "q"
      refine wpAny_assignInOrder_more ?_
      iterate 2 walk_at "q"
      refine wpAny_assignInOrder_none ?_
      refine ifs0 ?_
      simp only [if_true]
      walk_at "qs"
      refine ⟨_, _, _, ‹_›, rfl, rfl, ?_, by rw [List.length_append, List.length_singleton]; omega⟩
      rw [List.take_add_one, hp', Option.toList_some, List.map_append]
      exact hzs.snoc ha'
    · rintro zs own' z'' s'' D' ⟨rfl, rfl, hzs, _⟩ S''
      have e : (vs.drop (i + 1)).length = (ps.drop (i + 1)).length := by rw [List.length_drop, List.length_drop, hlen]
      rw [e, List.take_length] at hzs
      refine notInFs hu (St.plainL S'' (.tail _ (.head _))) (hzs.up S''.tu) (ha.up S''.tu) (hn p (List.mem_of_getElem? hp)) ?_ ?_
      · intro f hf
        obtain ⟨q, hq, rfl⟩ := List.mem_map.mp hf
        exact hn q (List.mem_of_mem_drop hq)
      walk_at "qs"
      have hss : (ps.map (·.1))[i]? = some p.1 := by rw [List.getElem?_map, hp]; rfl
      have hil : isLast (ps.map (·.1)) i = !((ps.drop (i + 1)).map (·.1)).contains p.1 := by
        unfold isLast
        rw [hss]
        simp only [← List.map_drop]
        rw [Bool.eq_iff_iff]
        simp
      have hacc : ((List.range (i + 1)).filter (isLast (ps.map (·.1)))).filterMap (fun j => (ps[j]?).map (·.2)) = ((List.range i).filter (isLast (ps.map (·.1)))).filterMap (fun j => (ps[j]?).map (·.2)) ++ (if isLast (ps.map (·.1)) i then [p.2] else []) := by
        rw [List.range_succ, List.filter_append, List.filterMap_append]
        congr 1
        cases hb : isLast (ps.map (·.1)) i with
        | false => simp [List.filter_cons, hb]
        | true => simp [List.filter_cons, hb, hp]
      have S3 := S''.drop2.drop2
      refine iteB ?_ ?_
      · intro hb
        rw [← hil] at hb
        refine ldL S'' (.head _) hMn ?_
        refine ⟨_, _, _, S3, rfl, rfl, ?_, by rw [List.length_append, List.length_singleton]; omega⟩
        rw [hacc, if_pos hb]
        exact hy.snoc hnw
      · intro hb
        rw [← hil] at hb
        refine ⟨_, _, _, S3, rfl, rfl, ?_, by omega⟩
        rw [hacc, if_neg (neT hb), List.append_nil]
        exact hy
  · rintro ys own' z'' s'' D ⟨rfl, rfl, hy, _⟩ S''
    refine ⟨ys, S''.giveL (.tail _ (.head _)), FrsAt.up ?_ S''.tu⟩
    have e1 : (List.range vs.length).filter (isLast (ps.map (·.1))) = lastIdx (ps.map (·.1)) := by unfold lastIdx; rw [List.length_map, hlen]
    rw [e1] at hy
    have e2 : (lastIdx (ps.map (·.1))).filterMap (fun j => (ps[j]?).map (·.2)) = (lasts (·.1) ps).map (·.2) := by
      rw [← lasts_idx, List.map_filterMap]
    rw [e2] at hy
    exact hy
end

/-! _law_due -/
def sameL2 : List PySem.Str := ["reset_stream", "stop_sending", "new_token", "new_connection_id", "retire_connection_id", "handshake_done"]
def dueOne (lim blk : Fm → Option Ky) (dn : Fm → Bool) (f : Fm) : Option (Fm × Fm) :=
  if dn (abtOf f) = true then none
  else if sameL2.contains (kindF f) = true then some (abtOf f, f)
  else if latL.contains (kindF f) = true then some (abtOf f, f.dropLast ++ [(lim (abtOf f)).getD (lastK f)])
  else if blkL.contains (kindF f) = true then (blk (abtOf f)).map fun k => (abtOf f, f.dropLast ++ [k])
  else none
theorem dueOne_fst {lim blk : Fm → Option Ky} {dn : Fm → Bool} {f : Fm} {p : Fm × Fm} (h : dueOne lim blk dn f = some p) : p.1 = abtOf f := by
  unfold dueOne at h
  split at h
  · cases h
  split at h
  · cases h; rfl
  split at h
  · cases h; rfl
  split at h
  · obtain ⟨k, _, rfl⟩ := Option.map_eq_some_iff.mp h; rfl
  · cases h
theorem lat_not_same {x : PySem.Str} (h : latL.contains x = true) : sameL2.contains x = false := by
  rw [List.contains_iff_mem] at h
  simp only [latL, List.mem_cons, List.not_mem_nil, or_false] at h
  rcases h with rfl | rfl | rfl <;> decide +kernel
theorem blk_not_same {x : PySem.Str} (h : blkL.contains x = true) : sameL2.contains x = false := by
  rw [List.contains_iff_mem] at h
  simp only [blkL, List.mem_cons, List.not_mem_nil, or_false] at h
  rcases h with rfl | rfl | rfl <;> decide +kernel
theorem blk_not_lat {x : PySem.Str} (h : blkL.contains x = true) : latL.contains x = false := by
  rw [List.contains_iff_mem] at h
  simp only [blkL, List.mem_cons, List.not_mem_nil, or_false] at h
  rcases h with rfl | rfl | rfl <;> decide +kernel
/-- what the text asks of a frame that may be due -/
def Abt (f : Fm) : Prop := Hd f ∧ (lonL.contains (kindF f) = false → 2 ≤ f.length) ∧ Ky.opq ∉ abtOf f
theorem Abt.two {f r : Fm} {x : PySem.Str} (h : Abt f) (e : f = .str x :: r) (hp : lonL.contains x = false) : r ≠ [] := by
  rintro rfl
  subst e
  have := h.2.1 hp
  simp at this

section
variable {g : Heap} {s0 : Shared} {ex : List Addr} {own : List (Addr × (Obj → Prop))} {z : Heap} {s : Shared} {prog : Program} {w : World} {A : Around} {env : Env}
/-- list(tuple) -/
theorem listOfT {t : Addr} {vs : List Value} {q0 : Addr × (Obj → Prop)} {Q : Value → Shared → Prop} (S : St g s0 ex (q0 :: own) z s) (hT : IsTup s.heap t vs.toArray) (hz : vs.length ≤ 1000) (h : ∀ D s₁, St g s0 ex (q0 :: (D, listP vs) :: own) z s₁ → Q (.ref D) s₁) :
    wpAny (model prog w) A (call (.type "list") [.ref t]) Q NoE s := by
  obtain ⟨o, ho, hc, n, hd⟩ := hT
  refine call_list_seq t (.inr rfl) ho hc hd (fun h' c' hk hD => ?_) (by rw [List.size_toArray, sizeLine_eq]; omega)
  refine h _ _ (St.swap (S.fresh (D := s.heap.objs.size) ⟨⟨h', s.toks, rfl⟩, fun b o _ e => hk b o e⟩ ?_ ⟨_, hD, ⟨rfl, c', rfl⟩, listP_tp (vs := vs) ⟨rfl, c', rfl⟩⟩))
  cases e : s.heap.get? s.heap.objs.size with
  | none => rfl
  | some o' => exact absurd (Heap.lt_size e) (Nat.lt_irrefl _)
/-- tuple(list) -/
theorem tupOfL {l : Addr} {vs : List Value} {Q : Value → Shared → Prop} (S : St g s0 ex own z s) (hl : s.heap.IsList l vs.toArray) (hz : vs.length ≤ 1000) (h : ∀ D s₁, St g s0 ex own z s₁ → IsTup s₁.heap D vs.toArray → Q (.ref D) s₁) :
    wpAny (model prog w) A (call (.type "tuple") [.ref l]) Q NoE s := by
  refine call_tuple_list hl (fun h' hk => ?_) (by rw [List.size_toArray, sizeLine_eq]; omega)
  exact h _ _ ((S.grow (tk := s.toks) hk).grow (tk := s.toks) fun b o e => Heap.get?_push_of_some _ e) ⟨_, Heap.get?_push_size _ rfl, rfl, 0, rfl⟩
theorem subI {a b : Int} {t u : Tok} {Q : Value → Shared → Prop} (S : St g s0 ex own z s) (h : ∀ t s₁, St g s0 ex own z s₁ → Q (.int (a - b) t) s₁) : wpAny (model prog w) A (binaryOp .Sub (.int a t) (.int b u)) Q NoE s := sub_int (h _ _ (S.toks _))
end
local macro_rules | `(tactic| walk_at "q") => `(tactic| ((with_reducible refine' subI ?S ?_); (case S => assumption); intro _ _ _))

theorem setLast {vs : List Value} {y : Value} {k : Nat} (h : vs ≠ []) (hk : k = vs.length - 1) : vs.toArray.setIfInBounds k y = (vs.dropLast ++ [y]).toArray := by
  subst hk
  have hp : 0 < vs.length := List.length_pos_iff.mpr h
  apply Array.ext'
  rw [Array.toList_setIfInBounds]
  apply List.ext_getElem?
  intro j
  show (vs.set (vs.length - 1) y)[j]? = (vs.dropLast ++ [y])[j]?
  rw [List.getElem?_set]
  by_cases e : vs.length - 1 = j
  · subst e
    rw [if_pos rfl, if_pos (by omega), List.getElem?_append_right (by rw [List.length_dropLast]; exact Nat.le_refl _), List.length_dropLast, Nat.sub_self]
    rfl
  · rw [if_neg e]
    by_cases hj : j < vs.length - 1
    · rw [List.getElem?_append_left (by rw [List.length_dropLast]; exact hj), List.getElem?_dropLast, if_pos hj]
    · rw [List.getElem?_eq_none (by omega), List.getElem?_eq_none (by rw [List.length_append, List.length_dropLast, List.length_singleton]; omega)]
theorem lastK_at {f : Fm} (h : f ≠ []) : f[f.length - 1]? = some (lastK f) := by
  unfold lastK
  rw [List.getLastD_eq_getLast?, List.getLast?_eq_getElem?]
  have hp : 0 < f.length := List.length_pos_iff.mpr h
  rw [List.getElem?_eq_getElem (by omega)]
  rfl

section
variable {g : Heap} {s : Shared} {prog : Program} {w : World} {A : Around} {a ab l dl db dd : Addr} {mg mb : PySem.Str → Option Value}
theorem due_spec {k : Nat} {fs : List Fm} {vs : List Value} {xl xb xd : DL} (hg : GSub g s) (N : Names g mg mb) (B : Blt mg mb) (hf : FnN g a 14) (hfa : FnN g ab 13) (ha : mg "_law_about" = some (.ref ab)) (R : Room A (k + 2)) (hl : s.heap.IsList l vs.toArray) (hv : FrsAt s.heap fs vs)
    (hxl : s.heap.DictOfH (tkd prog w) dl xl) (hxb : s.heap.DictOfH (tkd prog w) db xb) (hxd : s.heap.DictOfH (tkd prog w) dd xd) (nl : (dl == sysModules) = false) (nb : (db == sysModules) = false) (nd : (dd == sysModules) = false)
    (vl : ValsOk xl) (vb : ValsOk xb) (hh : ∀ f ∈ fs, Abt f) (hlong : ∀ f ∈ fs, latL.contains (kindF f) = true ∨ blkL.contains (kindF f) = true → Long f) (hz : vs.length < 64) :
    wpAny (model prog w) A (call (.ref a) [.ref l, .ref dl, .ref db, .ref dd]) (fun v s' => ∃ vs', NewL s s' v vs' ∧ FrsAt s'.heap ((lasts (·.1) (fs.filterMap (dueOne (lk xl) (lk xb) (fun f => (atKey xd f).isSome)))).map (·.2)) vs') NoE s := by
  refine callC (cn := "found") (binds := [("lost", .ref l), ("limits", .ref dl), ("blocked", .ref db), ("done", .ref dd)]) hg N hf R (fun _ _ _ => by rfl) (fun _ => rfl) (fun L x hx => .inl ?_) ?_
  · have : ([("lost", .ref l), ("limits", .ref dl), ("blocked", .ref db), ("done", .ref dd)] : List (PySem.Str × Value)).all (fun x => decide ((scopeAt 14).names.lookup x.1 = some .local)) = true := by rfl
    exact of_decide_eq_true (List.all_eq_true.mp this x hx)
  intro cd L s₁ R₁ S
  show wpAny _ _ (execs (bodyAt 14) _) _ _ _
  refine wpAny_execs_cons (wpAny_Assign_Name ?_)
  iterate 3 walk_at "q"
  rename_i F s₂ S₂
  have S₂ : St g s [] (_ :: (L + 1, cellP _) :: [(F, plainP [])]) _ _ := St.perm S₂ (List.Perm.cons _ (List.Perm.swap _ _ _))
  refine stC (c := L + 1) S₂ fun s₃ S₃ => ?_
  walk_at "q"
  refine wpAny_For ?_
  walk_at "q"
  refine iterLs S₃ (S₃.isList0 hl) fun I s₄ S₄ => ?_
  have keepD : ∀ {own z s' d xs}, St g s [] own z s' → s.heap.DictOfH (tkd prog w) d xs → s'.heap.DictOfH (tkd prog w) d xs := fun S' hd => DictOfH_keep hd fun b o e => S'.keep b o (by simp) e
  refine forA (itrLs R₁.handled I l vs _ (.inl fun _ => rfl)) (fun i own' z' => ∃ m ys, own' = [(L, nsP m), (L + 1, cellP (some (.ref F))), (F, plainP ys)] ∧ m "limits" = some (.ref dl) ∧ m "blocked" = some (.ref db) ∧ m "done" = some (.ref dd) ∧
      PrsAt z' ((fs.take i).filterMap (dueOne (lk xl) (lk xb) (fun f => (atKey xd f).isSome))) ys ∧ ys.length ≤ i ∧ TupSub s.heap z') S₄ ⟨_, _, rfl, rfl, rfl, rfl, .nil, Nat.le_refl _, TupSub.refl _⟩ ?_ ?_ ?_
  · rintro i own' z' s' _ tl S'
    exact S'.isList0 hl
  · rintro i v own' z' s' tl hi ⟨m, ys, rfl, hm2, hm3, hm4, hy, hle, ht⟩ hx S'
    obtain ⟨f, hfi, hfv⟩ := paired_get' hv hx
    have hmem := List.mem_of_getElem? hfi
    have hsub := hh f hmem
    obtain ⟨r, hr⟩ := hsub.1.eq
    have etake : ((fs.take (i + 1)).filterMap (dueOne (lk xl) (lk xb) (fun f => (atKey xd f).isSome))) = ((fs.take i).filterMap (dueOne (lk xl) (lk xb) (fun f => (atKey xd f).isSome))) ++ (dueOne (lk xl) (lk xb) (fun f => (atKey xd f).isSome) f).toList := by
      rw [List.take_add_one, hfi, List.filterMap_append]
      congr 1
    walk_at "qs"
    refine Assign_Tuple_swapped ?_
    walk_at "qs"
    have S₅ := ‹St g s [] _ _ _›
    refine frItem S₅ (hfv.up ht) (i := 0) (k := .str (kindF f)) (by rw [hr]; rfl) (by decide) ?_
    intro x0 hx0
    obtain ⟨tx, rfl⟩ := itemStr hx0
    walk_at "qs"
    refine callG ‹_› N ha hfa ?_
    walk_at "qs"
    have S₇ := ‹St g s [] _ _ _›
    refine ⟨⟨_, _, S₇⟩, wpAny_mono (abt_spec S₇.gkeep N hfa R₁ (hfv.up (ht.trans S₇.tu)) hr (hsub.two hr)) (fun v' s₈ h₈ => ?_) fun _ _ e => e⟩
    obtain ⟨K₈, hv'⟩ := h₈
    have S₈ := (S₇.keeps K₈).up
    have ht₈ : TupSub s.heap s₈.heap := ht.trans (S₇.keeps K₈).tu
    have hy₈ := hy.up (S₇.keeps K₈).tu
    have hfv₈ := hfv.up ht₈
    clear S₇ K₈ S₅
    walk_at "qs"
    refine unpk ‹_› ‹_› R₁.handled rfl ?_
    intro s₉ S₉ _
    refine wpAny_assignInOrder_more (wpAny_bindName ?_)
    walk_at "q"
    refine wpAny_assignInOrder_more (wpAny_bindName ?_)
    walk_at "q"
    refine wpAny_assignInOrder_more (wpAny_bindName ?_)
    walk_at "q"
    refine wpAny_assignInOrder_none ?_
    walk_at "qs"
    have S₁₀ := ‹St g s [] ((L, nsP fun y => if y = _ then _ else _) :: _) s₈.heap _›
    generalize hM : (fun y : PySem.Str => if y = _ then _ else _) = m₀ at S₁₀ ⊢
    have M1 : m₀ "kind" = some (.str (kindF f) tx) := by rw [← hM]; rfl
    have M2 : m₀ "about" = some v' := by rw [← hM]; rfl
    have M3 : m₀ "now" = some .none := by rw [← hM]; rfl
    have M4 : m₀ "frame" = some v := by rw [← hM]; rfl
    have M5 : m₀ "limits" = some (.ref dl) := by rw [← hM]; exact hm2
    have M6 : m₀ "blocked" = some (.ref db) := by rw [← hM]; exact hm3
    have M7 : m₀ "done" = some (.ref dd) := by rw [← hM]; exact hm4
    clear hM S₉
    have goNone : dueOne (lk xl) (lk xb) (fun f => (atKey xd f).isSome) f = none → ∀ m' sX, St g s [] ((L, nsP m') :: (L + 1, cellP (some (.ref F))) :: (F, plainP ys) :: tl) s₈.heap sX → m' "limits" = some (.ref dl) → m' "blocked" = some (.ref db) → m' "done" = some (.ref dd) →
        ∃ own₂ z₂, St g s [] (own₂ ++ tl) z₂ sX ∧ ∃ m ys, own₂ = [(L, nsP m), (L + 1, cellP (some (.ref F))), (F, plainP ys)] ∧ m "limits" = some (.ref dl) ∧ m "blocked" = some (.ref db) ∧ m "done" = some (.ref dd) ∧
          PrsAt z₂ ((fs.take (i + 1)).filterMap (dueOne (lk xl) (lk xb) (fun f => (atKey xd f).isSome))) ys ∧ ys.length ≤ i + 1 ∧ TupSub s.heap z₂ := by
      intro e m' sX SX h2 h3 h4
      refine ⟨[_, _, _], _, SX, _, _, rfl, h2, h3, h4, ?_, by omega, ht₈⟩
      rw [etake, e, Option.toList_none, List.append_nil]
      exact hy₈
    have goSome : ∀ n y m' z'' sX, dueOne (lk xl) (lk xb) (fun f => (atKey xd f).isSome) f = some n → PairAt z'' n y → TupSub s₈.heap z'' → St g s [] ((L, nsP m') :: (L + 1, cellP (some (.ref F))) :: (F, plainP (ys ++ [y])) :: tl) z'' sX → m' "limits" = some (.ref dl) → m' "blocked" = some (.ref db) → m' "done" = some (.ref dd) →
        ∃ own₂ z₂, St g s [] (own₂ ++ tl) z₂ sX ∧ ∃ m ys, own₂ = [(L, nsP m), (L + 1, cellP (some (.ref F))), (F, plainP ys)] ∧ m "limits" = some (.ref dl) ∧ m "blocked" = some (.ref db) ∧ m "done" = some (.ref dd) ∧
          PrsAt z₂ ((fs.take (i + 1)).filterMap (dueOne (lk xl) (lk xb) (fun f => (atKey xd f).isSome))) ys ∧ ys.length ≤ i + 1 ∧ TupSub s.heap z₂ := by
      intro n y m' z'' sX e hn' ht' SX h2 h3 h4
      refine ⟨[_, _, _], _, SX, _, _, rfl, h2, h3, h4, ?_, by rw [List.length_append, List.length_singleton]; omega, ht₈.trans ht'⟩
      rw [etake, e, Option.toList_some]
      exact paired_append (hy₈.up ht') (.cons hn' .nil)
    refine inH R₁.u1 nd S₁₀ (keepD S₁₀ hxd) (hv'.up S₁₀.tu) hsub.2.2 fun s₁₁ S₁₁ _ => ?_
    clear S₁₀
    walk_at "q"
    refine iteB ?_ ?_
    · intro hb
      walk_at "qs"
      exact goNone (by unfold dueOne; rw [if_pos hb]) _ _ S₁₁ M5 M6 M7
    intro hb
    walk_at "qs"
    obtain ⟨fa, fvs, rfl, hTf, hIf⟩ := hfv₈
    have hfe : f ≠ [] := by rw [hr]; simp
    cases hS : sameL2.contains (kindF f) with
    | true =>
      have hL : latL.contains (kindF f) = false := by
        cases e : latL.contains (kindF f) with
        | false => rfl
        | true => rw [lat_not_same e] at hS; cases hS
      have hB : blkL.contains (kindF f) = false := by
        cases e : blkL.contains (kindF f) with
        | false => rfl
        | true => rw [blk_not_same e] at hS; cases hS
      have e1 : dueOne (lk xl) (lk xb) (fun f => (atKey xd f).isSome) f = some (abtOf f, f) := by
        unfold dueOne
        rw [if_neg (neT hb), if_pos hS]
      refine iteB (fun _ => ?_) (fun h => absurd ((show sameL2.contains (kindF f) = false from h).symm.trans hS) Bool.false_ne_true)
      walk_at "qs"
      refine iteB (fun h => absurd ((show latL.contains (kindF f) = true from h).symm.trans hL) Bool.noConfusion) (fun _ => ?_)
      walk_at "qs"
      refine iteB (fun h => absurd ((show blkL.contains (kindF f) = true from h).symm.trans hB) Bool.noConfusion) (fun _ => ?_)
      rw [if_neg Bool.false_ne_true]
      walk_at "qs"
      refine wpAny_isNot_other rfl (by intro h; cases h) ?_
      walk_at "qs"
      rw [if_pos rfl]
      walk_at "qs"
      refine appS ?_
      refine ldC ‹_› rfl (.tail _ (.head _)) ?_
      refine ⟨F, _, rfl, St.plain ‹_› (.tail _ (.tail _ (.head _))), ?_⟩
      walk_at "qs"
      refine callT1 ‹_› N B.ntuple B.btuple ?_
      walk_at "qs"
      have S₁₂ := (‹St g s [] _ s₈.heap _›)
      refine call_tuple_tup (IsTup.tup hTf S₁₂.tu) ?_
      walk_at "qs"
      rename_i T sT ST KT hTT
      refine appC (pre := [_, _]) ST.up (by omega) fun s₁₈ S₁₈ => ?_
      walk_at "qs"
      refine goSome _ _ _ _ _ e1 ⟨T, _, _, rfl, hTT, hv'.up ST.tu, ⟨fa, fvs, rfl, IsTup.tup hTf ST.tu, hIf⟩⟩ ST.tu S₁₈ ?_ ?_ ?_ <;> assumption
    | false =>
      refine iteB (fun h => absurd ((show sameL2.contains (kindF f) = true from h).symm.trans hS) Bool.noConfusion) (fun _ => ?_)
      walk_at "qs"
      have hlen : f.length = fvs.length := hIf.length
      have hfne : fvs ≠ [] := by intro e; rw [e] at hlen; simp at hlen; exact hfe hlen
      cases hL : latL.contains (kindF f) with
      | true =>
        have hB : blkL.contains (kindF f) = false := by
          cases e : blkL.contains (kindF f) with
          | false => rfl
          | true => rw [blk_not_lat e] at hL; cases hL
        have hlf := hlong f hmem (.inl hL)
        have e0 : dueOne (lk xl) (lk xb) (fun f => (atKey xd f).isSome) f = some (abtOf f, f.dropLast ++ [(lk xl (abtOf f)).getD (lastK f)]) := by
          unfold dueOne
          rw [if_neg (neT hb), if_neg (neT hS), if_pos hL]
        refine iteB (fun _ => ?_) (fun h => absurd ((show latL.contains (kindF f) = false from h).symm.trans hL) Bool.false_ne_true)
        walk_at "qs"
        refine callT1 ‹_› N B.nlist B.blist ?_
        walk_at "qs"
        have S₁₂ := (‹St g s [] _ s₈.heap _›)
        refine listOfT S₁₂ (IsTup.tup hTf S₁₂.tu) (by have := hlf.2; omega) fun D s₁₃ S₁₃ => ?_
        walk_at "q"
        have S₁₄ := (‹St g s [] ((L, nsP fun y => if y = "now" then _ else _) :: _) s₈.heap _›)
        walk_at "q"
        walk_at "q"
        refine wpAny_mono (?h : wpAny _ _ _ (fun y sX => ((lk xl (abtOf f)).getD (lastK f) = Ky.opq ∨ isKy ((lk xl (abtOf f)).getD (lastK f)) y = true) ∧ ∃ m₁, St g s [] ((L, nsP m₁) :: (D, listP fvs) :: (L + 1, cellP (some (.ref F))) :: (F, plainP ys) :: tl) s₈.heap sX ∧ m₁ "now" = some (.ref D) ∧ m₁ "kind" = some (.str (kindF f) tx) ∧ m₁ "about" = some v' ∧ m₁ "limits" = some (.ref dl) ∧ m₁ "blocked" = some (.ref db) ∧ m₁ "done" = some (.ref dd)) NoE _) (fun y sX h => ?_) fun _ _ e => e
        case h =>
          walk_at "qs"
          have S₁₅ := (‹St g s [] ((L, nsP fun y => if y = "now" then _ else _) :: _) s₈.heap _›)
          refine inH R₁.u1 nl S₁₅ (keepD S₁₅ hxl) (hv'.up S₁₅.tu) hsub.2.2 fun s₁₆ S₁₆ _ => ?_
          walk_at "q"
          refine iteB ?_ ?_
          · intro hb2
            obtain ⟨p, hp⟩ := Option.isSome_iff_exists.mp hb2
            walk_at "qs"
            refine getH (xs := xl) R₁.u1 S₁₆ (keepD S₁₆ hxl) (hv'.up S₁₆.tu) hsub.2.2 hp fun s₁₇ S₁₇ _ => ?_
            refine ⟨?_, _, S₁₇, rfl, M1, M2, M5, M6, M7⟩
            unfold lk
            rw [hp]
            exact .inr (vl.at hp)
          · intro hb2
            have hno : atKey xl (abtOf f) = none := by
              cases e : atKey xl (abtOf f) with
              | none => rfl
              | some p => rw [e] at hb2; cases hb2
            walk_at "qs"
            refine callB1 S₁₆ N B.nlen B.blen ?_
            walk_at "qs"
            refine lenTp S₁₆ (IsTup.tup hTf S₁₆.tu) (by have := hlf.2; omega) fun t₁₇ s₁₇ S₁₇ => ?_
            walk_at "qs"
            have S₁₈ := (‹St g s [] ((L, nsP fun y => if y = "now" then _ else _) :: _) s₈.heap _›)
            have hp : 0 < fvs.length := List.length_pos_iff.mpr hfne
            have e : (fvs.length : Int) - 1 = ((fvs.length - 1 : Nat) : Int) := by omega
            rw [e]
            refine frItem S₁₈ ⟨fa, fvs, rfl, hTf, hIf⟩ (i := fvs.length - 1) (k := lastK f) (by rw [← hlen]; exact lastK_at hfe) (by have := hlf.2; omega) ?_
            intro x hx
            refine ⟨?_, _, S₁₈, rfl, M1, M2, M5, M6, M7⟩
            unfold lk
            rw [hno]
            exact hx
        obtain ⟨hk, m₁, SX, P1, P2, P3, P4, P5, P6⟩ := h
        generalize (lk xl (abtOf f)).getD (lastK f) = k0 at hk e0
        walk_at "qs"
        refine callB1 SX N B.nlen B.blen ?_
        walk_at "qs"
        refine lenLs SX (SX.list (.tail _ (.head _))) (by have := hlf.2; omega) fun t₂₀ s₂₀ S₂₀ => ?_
        clear SX
        walk_at "qs"
        have S₂₁ := (‹St g s [] ((L, nsP m₁) :: (D, listP fvs) :: _) s₈.heap _›)
        have hp0 : 0 < fvs.length := List.length_pos_iff.mpr hfne
        refine setLs S₂₁ (by omega) (by omega) (by have := hlf.2; omega) (setLast hfne (by omega)) fun s₂₂ S₂₂ => ?_
        clear S₂₀ S₂₁
        walk_at "qs"
        refine iteB (fun h => absurd ((show blkL.contains (kindF f) = true from h).symm.trans hB) Bool.noConfusion) (fun _ => ?_)
        rw [if_neg Bool.false_ne_true]
        walk_at "qs"
        refine wpAny_isNot_other rfl (by intro h; cases h) ?_
        walk_at "qs"
        rw [if_pos rfl]
        walk_at "qs"
        refine appS ?_
        refine ldC ‹_› rfl (.tail _ (.tail _ (.head _))) ?_
        refine ⟨F, _, rfl, St.plain ‹_› (.tail _ (.tail _ (.tail _ (.head _)))), ?_⟩
        walk_at "qs"
        refine callT1 ‹_› N B.ntuple B.btuple ?_
        walk_at "qs"
        have S₂₃ := (‹St g s [] ((L, nsP m₁) :: (D, listP _) :: _) s₈.heap _›)
        refine tupOfL S₂₃ (S₂₃.list (.tail _ (.head _))) (by rw [List.length_append, List.length_dropLast, List.length_singleton]; have := hlf.2; omega) fun D2 s₂₄ S₂₄ hT₂₄ => ?_
        have S₂₅ := S₂₄.up
        have t₂₄ := S₂₄.tu
        clear S₂₃ S₂₄
        walk_at "qs"
        rename_i T sT ST KT hTT
        refine appC (pre := [_, _, _]) ST.up (by omega) fun s₁₈ S₁₈ => ?_
        walk_at "qs"
        refine goSome _ _ m₁ _ _ e0 ⟨T, _, _, rfl, hTT, hv'.up (t₂₄.trans ST.tu), ⟨D2, _, rfl, IsTup.tup hT₂₄ ST.tu, paired_append (dropLast_items hIf) (.cons hk .nil)⟩⟩ (t₂₄.trans ST.tu) (St.drop2 S₁₈) P4 P5 P6
      | false =>
        refine iteB (fun h => absurd ((show latL.contains (kindF f) = true from h).symm.trans hL) Bool.noConfusion) (fun _ => ?_)
        walk_at "qs"
        cases hB : blkL.contains (kindF f) with
        | false =>
          have e0 : dueOne (lk xl) (lk xb) (fun f => (atKey xd f).isSome) f = none := by
            unfold dueOne
            rw [if_neg (neT hb), if_neg (neT hS), if_neg (neT hL), if_neg (neT hB)]
          refine iteB (fun h => absurd ((show blkL.contains (kindF f) = true from h).symm.trans hB) Bool.noConfusion) (fun _ => ?_)
          rw [if_neg Bool.false_ne_true]
          walk_at "qs"
          refine wpAny_isNot_self rfl ?_
          walk_at "qs"
          rw [if_neg Bool.false_ne_true]
          walk_at "qs"
          refine goNone e0 m₀ _ ‹_› M5 M6 M7
        | true =>
          have eb : dueOne (lk xl) (lk xb) (fun f => (atKey xd f).isSome) f = (lk xb (abtOf f)).map fun k => (abtOf f, f.dropLast ++ [k]) := by
            unfold dueOne
            rw [if_neg (neT hb), if_neg (neT hS), if_neg (neT hL), if_pos hB]
          refine iteB (fun _ => ?_) (fun h => absurd ((show blkL.contains (kindF f) = false from h).symm.trans hB) Bool.false_ne_true)
          walk_at "qs"
          have S₁₂ := (‹St g s [] ((L, nsP m₀) :: _) s₈.heap _›)
          refine inH R₁.u1 nb S₁₂ (keepD S₁₂ hxb) (hv'.up S₁₂.tu) hsub.2.2 fun s₁₃ S₁₃ _ => ?_
          clear S₁₂
          walk_at "q"
          cases hq : atKey xb (abtOf f) with
          | none =>
            have e0 : dueOne (lk xl) (lk xb) (fun f => (atKey xd f).isSome) f = none := by
              rw [eb]; unfold lk; rw [hq]; rfl
            refine iteB (fun h => by cases h) (fun _ => ?_)
            rw [if_neg Bool.false_ne_true]
            walk_at "qs"
            refine wpAny_isNot_self rfl ?_
            walk_at "qs"
            rw [if_neg Bool.false_ne_true]
            walk_at "qs"
            refine goNone e0 m₀ _ ‹_› M5 M6 M7
          | some p =>
            have hlf := hlong f hmem (.inr hB)
            have e0 : dueOne (lk xl) (lk xb) (fun f => (atKey xd f).isSome) f = some (abtOf f, f.dropLast ++ [kyV p.2]) := by
              rw [eb]; unfold lk; rw [hq]; rfl
            have hk : kyV p.2 = Ky.opq ∨ isKy (kyV p.2) p.2 = true := .inr (vb.at hq)
            refine iteB (fun _ => ?_) (fun h => by cases h)
            walk_at "qs"
            rw [if_pos rfl]
            walk_at "qs"
            refine callT1 ‹_› N B.nlist B.blist ?_
            walk_at "qs"
            have S₁₂ := (‹St g s [] _ s₈.heap _›)
            refine listOfT S₁₂ (IsTup.tup hTf S₁₂.tu) (by have := hlf.2; omega) fun D s₁₃ S₁₃ => ?_
            walk_at "q"
            have S₁₄ := (‹St g s [] ((L, nsP fun y => if y = "now" then _ else _) :: _) s₈.heap _›)
            generalize hM1 : (fun y : PySem.Str => if y = "now" then some (Value.ref D) else m₀ y) = m₁ at S₁₄ ⊢
            have P1 : m₁ "now" = some (.ref D) := by rw [← hM1]; rfl
            have P3 : m₁ "about" = some v' := by rw [← hM1]; exact M2
            have P4 : m₁ "limits" = some (.ref dl) := by rw [← hM1]; exact M5
            have P5 : m₁ "blocked" = some (.ref db) := by rw [← hM1]; exact M6
            have P6 : m₁ "done" = some (.ref dd) := by rw [← hM1]; exact M7
            clear hM1
            walk_at "qs"
            refine getH (xs := xb) R₁.u1 S₁₄ (keepD S₁₄ hxb) (hv'.up S₁₄.tu) hsub.2.2 hq fun s₁₇ SX _ => ?_
            clear S₁₄
            generalize kyV p.2 = k0 at hk e0
            walk_at "qs"
            refine callB1 SX N B.nlen B.blen ?_
            walk_at "qs"
            refine lenLs SX (SX.list (.tail _ (.head _))) (by have := hlf.2; omega) fun t₂₀ s₂₀ S₂₀ => ?_
            clear SX
            walk_at "qs"
            have S₂₁ := (‹St g s [] ((L, nsP m₁) :: (D, listP fvs) :: _) s₈.heap _›)
            have hp0 : 0 < fvs.length := List.length_pos_iff.mpr hfne
            refine setLs S₂₁ (by omega) (by omega) (by have := hlf.2; omega) (setLast hfne (by omega)) fun s₂₂ S₂₂ => ?_
            clear S₂₀ S₂₁
            walk_at "qs"
            refine wpAny_isNot_other rfl (by intro h; cases h) ?_
            walk_at "qs"
            rw [if_pos rfl]
            walk_at "qs"
            refine appS ?_
            refine ldC ‹_› rfl (.tail _ (.tail _ (.head _))) ?_
            refine ⟨F, _, rfl, St.plain ‹_› (.tail _ (.tail _ (.tail _ (.head _)))), ?_⟩
            walk_at "qs"
            refine callT1 ‹_› N B.ntuple B.btuple ?_
            walk_at "qs"
            have S₂₃ := (‹St g s [] ((L, nsP m₁) :: (D, listP _) :: _) s₈.heap _›)
            refine tupOfL S₂₃ (S₂₃.list (.tail _ (.head _))) (by rw [List.length_append, List.length_dropLast, List.length_singleton]; have := hlf.2; omega) fun D2 s₂₄ S₂₄ hT₂₄ => ?_
            have S₂₅ := S₂₄.up
            have t₂₄ := S₂₄.tu
            clear S₂₃ S₂₄
            walk_at "qs"
            rename_i T sT ST KT hTT
            refine appC (pre := [_, _, _]) ST.up (by omega) fun s₁₈ S₁₈ => ?_
            walk_at "qs"
            refine goSome _ _ m₁ _ _ e0 ⟨T, _, _, rfl, hTT, hv'.up (t₂₄.trans ST.tu), ⟨D2, _, rfl, IsTup.tup hT₂₄ ST.tu, paired_append (dropLast_items hIf) (.cons hk .nil)⟩⟩ (t₂₄.trans ST.tu) (St.drop2 S₁₈) P4 P5 P6
  · rintro own' z' s' ⟨m, ys, rfl, hm2, hm3, hm4, hy, hle, ht⟩ S'
    have hlen : fs.length = vs.length := hv.length
    rw [← hlen, List.take_length] at hy
    refine dueEnd N B R₁.handled R₁.u1 S' hy (by omega) ?_ ht
    intro p hp
    obtain ⟨f', hm', e⟩ := List.mem_filterMap.mp hp
    rw [dueOne_fst e]
    exact (hh f' hm').2.2
end

/-! the law's body, from its end backwards -/
structure Cx (g : Heap) (mg mb : PySem.Str → Option Value) (f : Nat → Addr) : Prop where
  N : Names g mg mb
  B : Blt mg mb
  W : WayTabs g mg
  f5 : FnN g (f 5) 5
  f6 : FnN g (f 6) 6
  f7 : FnN g (f 7) 7
  f8 : FnN g (f 8) 8
  f9 : FnN g (f 9) 9
  f11 : FnN g (f 11) 11
  f12 : FnN g (f 12) 12
  f13 : FnN g (f 13) 13
  f14 : FnN g (f 14) 14
  m5 : mg "way_of" = some (.ref (f 5))
  m6 : mg "subject_of" = some (.ref (f 6))
  m7 : mg "newest" = some (.ref (f 7))
  m8 : mg "told_again" = some (.ref (f 8))
  m9 : mg "held_data" = some (.ref (f 9))
  m11 : mg "_law_draw" = some (.ref (f 11))
  m12 : mg "_law_frame" = some (.ref (f 12))
  m13 : mg "_law_about" = some (.ref (f 13))
  m14 : mg "_law_due" = some (.ref (f 14))

section
variable {g : Heap} {s0 : Shared} {ex : List Addr} {own : List (Addr × (Obj → Prop))} {z : Heap} {s : Shared} {prog : Program} {w : World} {A : Around} {env : Env}
theorem notInStrs {a : Addr} {vs : List Value} {ss : List PySem.Str} {x : PySem.Str} {t : Tok} {Q : Value → Shared → Prop} (hT : IsTup s.heap a vs.toArray) (hs : StrsAre vs ss) (h : Q (.bool (!ss.contains x)) s) :
    wpAny (model prog w) A (compareOp .NotIn (.str x t) (.ref a)) Q NoE s := by
  refine SeqAt.notIn_tupleAt (fun v => v.isStr x) hT (fun y hy => ?_) ?_
  · have hy' : y ∈ vs := by simpa using hy
    have : ∃ u tu, y = .str u tu := by
      clear h hT hy
      revert hy'
      induction hs with
      | nil => intro hy'; cases hy'
      | cons _ _ _ ih => intro hy'; rcases List.mem_cons.mp hy' with rfl | hy'; exact ⟨_, _, rfl⟩; exact ih hy'
    obtain ⟨u, tu, rfl⟩ := this
    exact eqTo (EqAt.str_str _ _ _ _) rfl
  · have e : (vs.toArray.any fun v => v.isStr x) = ss.contains x := by
      rw [List.any_toArray]
      clear h hT
      induction hs with
      | nil => rfl
      | cons _ _ _ ih => rw [List.any_cons, ih, List.contains_cons, Value.isStr]; congr 1; exact BEq.comm
    rw [e]; exact h
/-- two frames that are the same -/
theorem neTup {f : Fm} {u v : Value} {Q : Value → Shared → Prop} (hu : A.units < cLine) (h1 : FrAt s.heap f u) (h2 : FrAt s.heap f v) (n : Ky.opq ∉ f) (h : Q (.bool false) s) : wpAny (model prog w) A (compareOp .NotEq u v) Q NoE s := by
  obtain ⟨a, vs, rfl, hT1, i1⟩ := h1
  obtain ⟨b, ws, rfl, hT2, i2⟩ := h2
  have hl : vs.length = ws.length := by rw [← i1.length, i2.length]
  refine SeqAt.RcNeAt.tuples (A := A) (s := s) (e := fun _ => true) hT1 hT2 hu (fun j j1 j2 => ?_) prog w NoE Q ?_
  · have j1' : j < vs.length := by simpa using j1
    have j2' : j < ws.length := by simpa using j2
    obtain ⟨k, hk, r⟩ := paired_get' i1 (List.getElem?_eq_getElem j1')
    obtain ⟨k', hk', r'⟩ := paired_get' i2 (List.getElem?_eq_getElem j2')
    rw [hk] at hk'
    cases hk'
    have hn : k ≠ Ky.opq := fun e => n (e ▸ List.mem_of_getElem? hk)
    have := eqAt_ky (A := A.in1) (s := s) (r.resolve_left hn) (r'.resolve_left hn)
    rw [decide_eq_true rfl] at this
    simpa using this
  · have : (!((List.range (min vs.toArray.size ws.toArray.size)).all (fun _ => true) && vs.toArray.size == ws.toArray.size)) = false := by simp [hl]
    rw [this]; exact h
end
local macro_rules | `(tactic| walk_at "q") => `(tactic| ((with_reducible refine' notInStrs ?T ?s ?_); (case T => assumption); (case s => assumption)))

section
variable {g : Heap} {s0 : Shared} {prog : Program} {w : World} {A : Around} {L a : Addr} {cd : Value} {mg mb : PySem.Str → Option Value} {f : Nat → Addr}
/-- the last line -/
theorem lawE {k : Nat} {m : PySem.Str → Option Value} {own : List (Addr × (Obj → Prop))} {z : Heap} {s : Shared} (C : Cx g mg mb f) (R : Room A (k + 1)) (hab : s0.heap.objs.size ≤ L) (S : St g s0 [] ((L, nsP m) :: own) z s) :
    wpAny (model prog w) A (execs (List.drop 10 (bodyAt 15)) (envOfC (nameAt 15) (scopeAt 15) L a cd)) (fun fl s' => fl = .ret (.bool true) ∧ KeepsX [] s0 s') NoE s := by
  refine wpAny_execs_cons (wpAny_Return_some ?_)
  with_reducible refine wpAny_Compare1 ?_ ?hm
  case hm => with_unfolding_all rfl
  refine compE2 (g := g) (s0 := s0) (ex := []) (q0 := (L, nsP m)) (cl := []) rfl ?_
  with_reducible refine' strTup S ?e ?z ?_
  case e => rfl
  case z => decide
  intro T vs s₁ S₁ hT hs
  have S₁ := S₁.up
  refine iterTp S₁ hT fun I s₂ S₂ K₂ => ?_
  have hl : vs.length = 5 := by rw [StrsAre.len hs]; rfl
  refine ⟨I, vs.length, fun i => [(I, tpIterP T i)], fun h => IsTup h T vs.toArray, fun i v _ => vs[i]? = some v, own, s₁.heap, fun i ys own' z' => own' = own ∧ z' = s₁.heap ∧ ys.length = i ∧ ∀ y ∈ ys, ∃ t, y = .str "never" t,
    rfl, itrTp R.handled I T vs _ (fun _ => rfl), by omega, S₂, ⟨rfl, rfl, rfl, fun _ h => nomatch h⟩, fun _ _ _ _ h => by omega, ?_, ?_, ?_⟩
  · rintro i ys own' z' s' ⟨rfl, rfl, _⟩ D C' mC tl S'
    exact IsTup.tup hT S'.tu
  · rintro i v ys own' z' s' tl C' D mC hi ⟨rfl, rfl, hle, hy⟩ hv S'
    have hstr : ∃ x t, v = .str x t ∧ x ∈ (["ack", "ping", "padding", "path_response", "close"] : List PySem.Str) := by
      have : ∀ {vs : List Value} {ss : List PySem.Str}, StrsAre vs ss → ∀ {i : Nat} {v : Value}, vs[i]? = some v → ∃ x t, v = .str x t ∧ x ∈ ss := by
        intro vs ss h
        induction h with
        | nil => intro i v e; simp at e
        | cons _ _ _ ih =>
          intro i v e
          cases i with
          | zero => exact ⟨_, _, (Option.some.inj e).symm, .head _⟩
          | succ i => obtain ⟨x, t, e1, e2⟩ := ih (i := i) (by simpa using e); exact ⟨x, t, e1, .tail _ e2⟩
      exact this hs hv
    obtain ⟨x, t, rfl, hx⟩ := hstr
    have hway : wayOf x = "never" := by
      simp only [List.mem_cons, List.not_mem_nil, or_false] at hx
      rcases hx with rfl | rfl | rfl | rfl | rfl <;> decide +kernel
    iterate 2 walk_at "q"
    refine ifs0 ?_
    simp only [if_true]
    refine callG ‹_› C.N C.m5 C.f5 ?_
    walk_at "qs"
    refine ⟨⟨_, _, ‹_›⟩, wpAny_mono (way_spec (St.gkeep ‹_›) C.N C.W C.f5 R) (fun v' s₆ h₆ => ?_) fun _ _ e => e⟩
    obtain ⟨K₆, t₆, rfl⟩ := h₆
    have S₆ := St.keeps ‹St g s0 [] _ _ _› K₆
    refine ⟨_, _, _, S₆, rfl, rfl, by rw [List.length_append, hle]; rfl, ?_⟩
    intro y hy'
    rcases List.mem_append.mp hy' with hy' | hy'
    · exact hy y hy'
    · exact ⟨t₆, by rw [List.mem_singleton.mp hy', hway]⟩
  · rintro ys own' z' s' D ⟨rfl, rfl, hle, hy⟩ S'
    walk_at "q"
    walk_at "q"
    walk_at "q"
    walk_at "q"
    rename_i t₀ s₃ S₃
    walk_at "q"
    walk_at "q"
    rename_i W1 s₄ S₄
    walk_at "q"
    rename_i t₅ s₅ S₅
    obtain ⟨oD, eD, qD, _⟩ := S₅.at (a := D) (P := plainP ys) (by exact .tail _ (.tail _ (.head _)))
    have hLD : D ≠ L := by
      have hnd := S₅.nd
      rintro rfl
      simp at hnd
    have hD0 : s0.heap.get? D = none := (S₅.hold (D, plainP ys) (by exact .tail _ (.tail _ (.head _)))).2.resolve_left (by simp)
    have F₅ : Fr s0.heap L s₅.heap m := ⟨S₅.ns (.head _), fun b o e => S₅.keep b o (by simp) e, hab⟩
    refine KMa.mul (h₀ := s0.heap) (L := L) (m := m) (news := [(D, oD)]) (vs := [.str "never" t₀]) (ws := [.str "never" t₀, .str "never" t₀, .str "never" t₀, .str "never" t₀, .str "never" t₀]) F₅ ?_ (St.plainL S₅ (.tail _ (.head _))) (by decide) (by decide) (by rw [List.length_singleton]; decide) rfl ?_
    · intro p hp
      rw [List.mem_singleton.mp hp]
      exact ⟨eD, hLD, hD0⟩
    intro D2 h' F' N' _
    obtain ⟨n1, eq1⟩ := qD
    have e1 := (N' _ (.tail _ (.head _))).1
    have e2 := (N' _ (.head _)).1
    have hlen : ys.length = 5 := by omega
    refine SeqAt.eq_listAt (items := ys.toArray) (e := fun _ => true) ⟨oD, e1, by rw [eq1], n1, by rw [eq1]⟩ ⟨_, e2, rfl, 0, rfl⟩ (by simp [hlen]) R.u (fun j j1 j2 => ?_) ?_
    · have j1' : j < ys.length := by simpa using j1
      obtain ⟨t1, e⟩ := hy ys[j] (List.getElem_mem j1')
      have e2 : ys.toArray[j] = .str "never" t1 := by simpa using e
      have e3 : ∃ t2, ([Value.str "never" t₀, .str "never" t₀, .str "never" t₀, .str "never" t₀, .str "never" t₀].toArray)[j] = .str "never" t2 := by
        have : ([Value.str "never" t₀, .str "never" t₀, .str "never" t₀, .str "never" t₀, .str "never" t₀] : List Value)[j]'(by simpa using j2) ∈ [Value.str "never" t₀, .str "never" t₀, .str "never" t₀, .str "never" t₀, .str "never" t₀] := List.getElem_mem _
        simp only [List.mem_cons, List.not_mem_nil, or_false, or_self] at this
        exact ⟨t₀, by simpa using this⟩
      obtain ⟨t2, e3⟩ := e3
      rw [e2, e3]
      exact eqTo (EqAt.str_str _ _ _ _) (by simp)
    · have e : ((List.range ys.toArray.size).all fun _ => true) = true := by simp
      rw [e]
      exact ⟨rfl, let ⟨_, tk, e⟩ := S₅.alike; ⟨h', tk, by rw [e]⟩, fun b o _ e => F'.keep b o e⟩
end

/-! the law's body: statements 9, 8, 7 -/
def Due (f : Fm) : Prop := Sub f ∧ Abt f ∧ subjOf f = abtOf f ∧ (["same", "latest", "blocked"] : List PySem.Str).contains (wayF f) = true ∧ Ky.opq ∉ f
section
variable {g : Heap} {s0 : Shared} {prog : Program} {w : World} {A : Around} {L a : Addr} {cd : Value} {mg mb : PySem.Str → Option Value} {f : Nat → Addr}
theorem lawD {k : Nat} {m : PySem.Str → Option Value} {own : List (Addr × (Obj → Prop))} {z : Heap} {s : Shared} {Du : Addr} {fs : List Fm} {vs : List Value} (C : Cx g mg mb f) (R : Room A (k + 1)) (hab : s0.heap.objs.size ≤ L) (S : St g s0 [] ((L, nsP m) :: (Du, plainP vs) :: own) z s)
    (hm : m "due" = some (.ref Du)) (hv : FrsAt z fs vs) (hd : ∀ f ∈ fs, Due f) :
    wpAny (model prog w) A (execs (List.drop 9 (bodyAt 15)) (envOfC (nameAt 15) (scopeAt 15) L a cd)) (fun fl s' => fl = .ret (.bool true) ∧ KeepsX [] s0 s') NoE s := by
  refine wpAny_execs_cons (wpAny_For ?_)
  refine ldL S (.head _) hm ?_
  refine iterLs S (St.plainL S (.tail _ (.head _))) fun I s₄ S₄ => ?_
  refine forA (itrLs R.handled I Du vs _ (.inl fun _ => rfl)) (fun i own' z' => ∃ m', own' = (L, nsP m') :: (Du, plainP vs) :: own ∧ TupSub z z') S₄ ⟨_, rfl, TupSub.refl _⟩ ?_ ?_ ?_
  · rintro i own' z' s' ⟨m', rfl, _⟩ tl S'
    exact St.plainL S' (.tail _ (.head _))
  · rintro i v own' z' s' tl hi ⟨m', rfl, ht⟩ hx S'
    obtain ⟨fr, hfi, hfv⟩ := paired_get' (hv.up ht) hx
    obtain ⟨d1, d2, d3, d4, d5⟩ := hd fr (List.mem_of_getElem? hfi)
    obtain ⟨r, hr⟩ := d1.1.eq
    walk_at "qs"
    refine callG ‹_› C.N C.m6 C.f6 ?_
    walk_at "qs"
    have S₅ := ‹St g s0 [] ((L, nsP fun y => if y = "frame" then _ else _) :: _) _ _›
    refine ⟨⟨_, _, S₅⟩, wpAny_mono (subj_spec S₅.gkeep C.N C.f6 R (hfv.up S₅.tu) hr (d1.two hr)) (fun v' s₆ h₆ => ?_) fun _ _ e => e⟩
    obtain ⟨K₆, hv'⟩ := h₆
    have S₆ := (S₅.keeps K₆).up
    have t₆ := (S₅.keeps K₆).tu
    clear S₅
    refine callG ‹_› C.N C.m13 C.f13 ?_
    walk_at "qs"
    have S₇ := ‹St g s0 [] ((L, nsP fun y => if y = "frame" then _ else _) :: _) s₆.heap _›
    refine ⟨⟨_, _, S₇⟩, wpAny_mono (abt_spec S₇.gkeep C.N C.f13 R (hfv.up (t₆.trans S₇.tu)) hr (d2.two hr)) (fun v₂ s₈ h₈ => ?_) fun _ _ e => e⟩
    obtain ⟨K₈, hv₂⟩ := h₈
    have S₈ := S₇.keeps K₈
    clear S₇
    refine neTup R.u (hv'.up S₈.tu) (by rw [d3]; exact hv₂) d1.2.2 ?_
    walk_at "q"
    rw [if_neg Bool.false_ne_true]
    walk_at "qs"
    refine callG ‹_› C.N C.m5 C.f5 ?_
    walk_at "qs"
    have S₉ := ‹St g s0 [] ((L, nsP fun y => if y = "frame" then _ else _) :: _) s₆.heap _›
    refine frItem S₉ (hfv.up t₆) (i := 0) (k := .str (kindF fr)) (by rw [hr]; rfl) (by decide) ?_
    intro x0 hx0
    obtain ⟨tx, rfl⟩ := itemStr hx0
    walk_at "qs"
    refine ⟨⟨_, _, S₉⟩, wpAny_mono (way_spec S₉.gkeep C.N C.W C.f5 R) (fun v' s₁₀ h₁₀ => ?_) fun _ _ e => e⟩
    obtain ⟨K₁₀, t₁₀, rfl⟩ := h₁₀
    have S₁₀ := S₉.keeps K₁₀
    clear S₉
    walk_at "qs"
    refine iteB (fun h => absurd h ?_) (fun _ => ?_)
    · rw [show (!(["same", "latest", "blocked"] : List PySem.Str).contains (wayOf (kindF fr))) = false from by rw [show wayOf (kindF fr) = wayF fr from rfl, d4]; rfl]
      simp
    walk_at "qs"
    rw [if_neg Bool.false_ne_true]
    walk_at "qs"
    exact ⟨_ :: _, _, ‹_›, _, rfl, ht.trans t₆⟩
  · rintro own' z' s' ⟨m', rfl, _⟩ S'
    exact lawE C R hab S'

theorem lawC {k : Nat} {m : PySem.Str → Option Value} {own : List (Addr × (Obj → Prop))} {z : Heap} {s : Shared} {Du : Addr} {fs : List Fm} {vs : List Value} (C : Cx g mg mb f) (R : Room A (k + 2)) (hab : s0.heap.objs.size ≤ L) (S : St g s0 [] ((L, nsP m) :: (Du, plainP vs) :: own) z s)
    (hm : m "due" = some (.ref Du)) (hv : FrsAt z fs vs) (hd : ∀ f ∈ fs, Due f) (hz : vs.length ≤ 30) (h1 : lasts subjOf fs = fs) (h2 : lasts subjOf (fs ++ fs) = fs) :
    wpAny (model prog w) A (execs (List.drop 8 (bodyAt 15)) (envOfC (nameAt 15) (scopeAt 15) L a cd)) (fun fl s' => fl = .ret (.bool true) ∧ KeepsX [] s0 s') NoE s := by
  have hn : ∀ f ∈ fs, Ky.opq ∉ f := fun f hf => (hd f hf).2.2.2.2
  refine wpAny_execs_cons (wpAny_If ?_)
  walk_at "q"
  walk_at "q"
  refine callG S C.N C.m7 C.f7 ?_
  walk_at "qs"
  have S₁ := ‹St g s0 [] ((L, nsP m) :: _) _ _›
  refine ⟨⟨_, _, S₁⟩, wpAny_mono (newest_spec S₁.gkeep C.N C.B C.f7 C.f6 C.m6 R (St.plainL S₁ (.tail _ (.head _))) (hv.up S₁.tu) (fun f hf => (hd f hf).1) (by omega)) (fun v' s₂ h₂ => ?_) fun _ _ e => e⟩
  obtain ⟨ws, hN, hw⟩ := h₂
  obtain ⟨D, rfl, S₂⟩ := S₁.newL hN
  have S₂ := S₂.swap
  rw [h1] at hw
  refine ldL S₂ (.head _) hm ?_
  refine neFs (R.u1) (St.plainL S₂ (.tail _ (.head _))) (St.plainL S₂ (.tail _ (.tail _ (.head _)))) hw (hv.up S₂.tu) hn rfl ?_
  walk_at "q"
  rw [if_neg Bool.false_ne_true]
  have S₃ := S₂.drop2
  clear S₂
  walk_at "q"
  walk_at "q"
  refine callG S₃ C.N C.m7 C.f7 ?_
  walk_at "q"
  walk_at "q"
  refine ldL S₃ (.head _) hm ?_
  refine ldL S₃ (.head _) hm ?_
  refine addLs S₃ (St.plainL S₃ (.tail _ (.head _))) (St.plainL S₃ (.tail _ (.head _))) (by rw [sizeLine_eq]; omega) fun D2 s₄ S₄ => ?_
  walk_at "qs"
  refine ⟨⟨_, _, S₄⟩, wpAny_mono (newest_spec S₄.gkeep C.N C.B C.f7 C.f6 C.m6 R (St.plainL S₄ (.tail _ (.head _))) (fs := fs ++ fs) (paired_append (hv.up S₄.tu) (hv.up S₄.tu)) (fun f hf => ?_) (by rw [List.length_append]; omega)) (fun v' s₅ h₅ => ?_) fun _ _ e => e⟩
  · rcases List.mem_append.mp hf with h | h <;> exact (hd f h).1
  obtain ⟨us, hN, hu⟩ := h₅
  obtain ⟨D3, rfl, S₅⟩ := S₄.newL hN
  have S₅ := S₅.swap
  rw [h2] at hu
  refine ldL S₅ (.head _) hm ?_
  refine neFs (R.u1) (St.plainL S₅ (.tail _ (.head _))) (St.plainL S₅ (.tail _ (.tail _ (.tail _ (.head _))))) hu (hv.up S₅.tu) hn rfl ?_
  have S₆ := S₅.drop2.drop2
  walk_at "qs"
  rw [if_neg Bool.false_ne_true]
  walk_at "q"
  rw [if_neg Bool.false_ne_true]
  walk_at "q"
  exact lawD C R hab S₆ hm (hv) hd

theorem way_holder (x : PySem.Str) : (wayOf x == ("holder" : PySem.Str)) = holdL.contains x := by
  unfold wayOf
  have h0 : anewL.contains x = true → holdL.contains x = false := by
    intro h1
    rw [List.contains_iff_mem] at h1
    simp only [anewL, List.mem_cons, List.not_mem_nil, or_false] at h1
    rcases h1 with rfl | rfl | rfl | rfl | rfl | rfl <;> decide +kernel
  generalize anewL.contains x = b1 at h0 ⊢
  generalize holdL.contains x = b2 at h0 ⊢
  generalize latL.contains x = b3
  generalize blkL.contains x = b4
  cases b1
  · cases b2 <;> cases b3 <;> cases b4 <;> decide
  · rw [h0 rfl]; cases b3 <;> cases b4 <;> decide

theorem lawB {k : Nat} {m : PySem.Str → Option Value} {own : List (Addr × (Obj → Prop))} {z : Heap} {s : Shared} {Du Lo dl db dd : Addr} {fdu flo : List Fm} {vdu vlo : List Value} {xl xb xd : DL} (C : Cx g mg mb f) (R : Room A (k + 3)) (hab : s0.heap.objs.size ≤ L)
    (S : St g s0 [] ((L, nsP m) :: (Du, plainP vdu) :: (Lo, plainP vlo) :: (dl, dictP prog w xl) :: (db, dictP prog w xb) :: (dd, dictP prog w xd) :: own) z s)
    (hm : m "due" = some (.ref Du)) (hm1 : m "lost" = some (.ref Lo)) (hm2 : m "limits" = some (.ref dl)) (hm3 : m "blocked" = some (.ref db)) (hm4 : m "done" = some (.ref dd)) (hv : FrsAt z fdu vdu) (hv2 : FrsAt z flo vlo) (hd : ∀ f ∈ fdu, Due f) (hz : vdu.length ≤ 30) (hz2 : vlo.length ≤ 30)
    (h1 : lasts subjOf fdu = fdu) (h2 : lasts subjOf (fdu ++ fdu) = fdu) (kl : KeysAt prog w z xl) (kb : KeysAt prog w z xb) (kd : KeysAt prog w z xd) (nl : (dl == sysModules) = false) (nb : (db == sysModules) = false) (nd : (dd == sysModules) = false)
    (vl : ValsOk xl) (vb : ValsOk xb) (hh : ∀ f ∈ flo, Sub f) (hlong : ∀ f ∈ flo, (wayF f == ("latest" : PySem.Str)) = true ∨ (wayF f == ("blocked" : PySem.Str)) = true → Long f)
    (hres : ∀ f ∈ flo, ∀ n, told (lk xl) (lk xb) (fun f => (atKey xd f).isSome) f = some n → Sub n) (ht : lasts subjOf (flo.filterMap (told (lk xl) (lk xb) (fun f => (atKey xd f).isSome))) = fdu)
    (hhold : ∀ f ∈ flo, holdL.contains (kindF f) = true → Ky.opq ∉ f) :
    wpAny (model prog w) A (execs (List.drop 7 (bodyAt 15)) (envOfC (nameAt 15) (scopeAt 15) L a cd)) (fun fl s' => fl = .ret (.bool true) ∧ KeepsX [] s0 s') NoE s := by
  refine wpAny_execs_cons (wpAny_If ?_)
  walk_at "q"
  walk_at "q"
  refine callG S C.N C.m8 C.f8 ?_
  walk_at "qs"
  have S₁ := ‹St g s0 [] ((L, nsP m) :: _) _ _›
  have hin1 : (dl, dictP prog w xl) ∈ (L, nsP m) :: (Du, plainP vdu) :: (Lo, plainP vlo) :: (dl, dictP prog w xl) :: (db, dictP prog w xb) :: (dd, dictP prog w xd) :: own := .tail _ (.tail _ (.tail _ (.head _)))
  have hin2 : (db, dictP prog w xb) ∈ (L, nsP m) :: (Du, plainP vdu) :: (Lo, plainP vlo) :: (dl, dictP prog w xl) :: (db, dictP prog w xb) :: (dd, dictP prog w xd) :: own := .tail _ (.tail _ (.tail _ (.tail _ (.head _))))
  have hin3 : (dd, dictP prog w xd) ∈ (L, nsP m) :: (Du, plainP vdu) :: (Lo, plainP vlo) :: (dl, dictP prog w xl) :: (db, dictP prog w xb) :: (dd, dictP prog w xd) :: own := .tail _ (.tail _ (.tail _ (.tail _ (.tail _ (.head _)))))
  refine ⟨⟨_, _, S₁⟩, wpAny_mono (told_spec S₁.gkeep C.N C.W C.B C.f8 C.f5 C.m5 C.f6 C.m6 C.f7 C.m7 R (St.plainL S₁ (.tail _ (.tail _ (.head _)))) (hv2.up S₁.tu) (S₁.dict hin1 kl) (S₁.dict hin2 kb) (S₁.dict hin3 kd) nl nb nd vl vb hh hlong hres (by omega)) (fun v' s₂ h₂ => ?_) fun _ _ e => e⟩
  obtain ⟨ws, hN, hw⟩ := h₂
  obtain ⟨D, rfl, S₂⟩ := S₁.newL hN
  have S₂ := S₂.swap
  rw [ht] at hw
  refine ldL S₂ (.head _) hm ?_
  have hn : ∀ f ∈ fdu, Ky.opq ∉ f := fun f hf => (hd f hf).2.2.2.2
  refine neFs (R.u1) (St.plainL S₂ (.tail _ (.head _))) (St.plainL S₂ (.tail _ (.tail _ (.head _)))) hw (hv.up S₂.tu) hn rfl ?_
  walk_at "q"
  rw [if_neg Bool.false_ne_true]
  have S₃ := S₂.drop2
  clear S₂ hin1 hin2 hin3 S₁
  walk_at "q"
  walk_at "q"
  refine callG S₃ C.N C.m9 C.f9 ?_
  walk_at "qs"
  have S₄ := ‹St g s0 [] ((L, nsP m) :: _) _ _›
  refine ⟨⟨_, _, S₄⟩, wpAny_mono (held_spec S₄.gkeep C.N C.W C.f9 C.f5 C.m5 R (St.plainL S₄ (.tail _ (.tail _ (.head _)))) (hv2.up S₄.tu) (fun f hf => (hh f hf).1) (by omega)) (fun v' s₅ h₅ => ?_) fun _ _ e => e⟩
  obtain ⟨us, hN, hu⟩ := h₅
  obtain ⟨D3, rfl, S₅⟩ := S₄.newL hN
  have S₅ := S₅.swap.up
  have hlo := hv2.up (S₄.newL hN).choose_spec.2.tu
  have hdu := hv.up (S₄.newL hN).choose_spec.2.tu
  clear S₄ S₃
  refine compE (n := vlo.length) (its := fun I i => [(I, lsIterP Lo i)]) (V := fun i v _ => vlo[i]? = some v) (H := fun h => h.IsList Lo vlo.toArray) (cl := [])
    (J := fun i ys own' z' => own' = (D3, plainP us) :: (Du, plainP vdu) :: (Lo, plainP vlo) :: (dl, dictP prog w xl) :: (db, dictP prog w xb) :: (dd, dictP prog w xd) :: own ∧ z' = s₅.heap ∧ FrsAt s₅.heap ((flo.take i).filter fun f => wayF f == "holder") ys ∧ ys.length ≤ i) (by omega) rfl S₅ ?_ (fun _ _ _ _ h => h.2.2.2) ?_ ?_ ?_
  · rintro s₆ Q' hQ rfl
    walk_at "qs"
    refine iterLs ‹_› (St.plainL ‹_› (.tail _ (.tail _ (.tail _ (.head _))))) fun I s₇ S₇ => ?_
    exact hQ I _ _ s₇ (itrLs R.handled I Lo vlo _ (.inl fun _ => rfl)) S₇ ⟨rfl, rfl, .nil, Nat.le_refl _⟩
  · rintro i ys own' z' s' ⟨rfl, rfl, _⟩ D C mC tl S'
    exact St.plainL S' (.tail _ (.tail _ (.tail _ (.tail _ (.tail _ (.head _))))))
  · rintro i v ys own' z' s' tl C' D mC hi ⟨rfl, rfl, hp, hle⟩ hvi S'
    obtain ⟨fr, hfi, hfv⟩ := paired_get' hlo hvi
    obtain ⟨r, hr⟩ := (hh fr (List.mem_of_getElem? hfi)).1.eq
    refine wpAny_assign_Name ?_
    walk_at "q"
    refine ifs1 ?_
    walk_at "qs"
    refine frItem ‹_› hfv (i := 0) (k := .str (kindF fr)) (by rw [hr]; rfl) (by decide) ?_
    intro x0 hx0
    obtain ⟨tx, rfl⟩ := itemStr hx0
    walk_at "qs"
    have e := filter_take_succ (p := fun f => wayF f == "holder") hfi
    have ew := way_holder (kindF fr)
    refine iteB (fun hb => ?_) (fun hb => ?_)
    · have hb : holdL.contains (kindF fr) = true := hb
      walk_at "qs"
      refine ⟨_, _, _, ‹_›, rfl, rfl, ?_, by simpa using hle⟩
      rw [e, if_pos (show (wayF fr == "holder") = true from ew.trans hb)]
      exact hp.snoc hfv
    · have hb : holdL.contains (kindF fr) = false := hb
      refine ⟨_, _, _, ‹_›, rfl, rfl, ?_, by omega⟩
      rw [e, if_neg (neT (show (wayF fr == "holder") = false from ew.trans hb)), List.append_nil]
      exact hp
  · rintro ys own' z' s' D4 ⟨rfl, rfl, hp, _⟩ S'
    have hlen := hlo.length
    rw [← hlen, List.take_length] at hp
    refine neFs (R.u1) (St.plainL S' (.tail _ (.tail _ (.head _)))) (St.plainL S' (.tail _ (.head _))) (hu.up S'.tu) (hp.up S'.tu) (fun f hf => ?_) rfl ?_
    · obtain ⟨hf1, hf2⟩ := List.mem_filter.mp hf
      exact hhold f hf1 ((way_holder (kindF f)).symm.trans hf2)
    walk_at "q"
    rw [if_neg Bool.false_ne_true]
    walk_at "q"
    rw [if_neg Bool.false_ne_true]
    walk_at "q"
    exact lawC C R hab S'.drop2.drop2 hm hdu hd hz h1 h2
end

/-! the law's body: statements 5, 6 -/
def ffil (f : Fm) : Bool := decide (1 < f.length) || kindF f == ("handshake_done" : PySem.Str)
def dueF (lim blk : Fm → Option Ky) (dn : Fm → Bool) (flo : List Fm) : List Fm := (lasts (·.1) ((flo.filter ffil).filterMap (dueOne lim blk dn))).map (·.2)
/-- the plain law: what holds of the lost frames -/
structure PureOk (lim blk : Fm → Option Ky) (dn : Fm → Bool) (flo : List Fm) : Prop where
  short : ∀ f ∈ flo, f.length ≤ 100
  sub : ∀ f ∈ flo, Sub f
  abt : ∀ f ∈ flo, ffil f = true → Abt f
  long : ∀ f ∈ flo, (wayF f == ("latest" : PySem.Str)) = true ∨ (wayF f == ("blocked" : PySem.Str)) = true → Long f
  long2 : ∀ f ∈ flo, latL.contains (kindF f) = true ∨ blkL.contains (kindF f) = true → Long f
  res : ∀ f ∈ flo, ∀ n, told lim blk dn f = some n → Sub n
  hold : ∀ f ∈ flo, holdL.contains (kindF f) = true → Ky.opq ∉ f
  due : ∀ f ∈ dueF lim blk dn flo, Due f
  eq : lasts subjOf (flo.filterMap (told lim blk dn)) = dueF lim blk dn flo
  one : lasts subjOf (dueF lim blk dn flo) = dueF lim blk dn flo
  two : lasts subjOf (dueF lim blk dn flo ++ dueF lim blk dn flo) = dueF lim blk dn flo

theorem lasts_len {α β : Type} [DecidableEq β] {φ : α → β} : ∀ {l : List α}, (lasts φ l).length ≤ l.length
  | [] => Nat.le_refl _
  | a :: r => by
    unfold lasts
    have := lasts_len (φ := φ) (l := r)
    split
    · exact Nat.le_succ_of_le this
    · exact Nat.succ_le_succ this
theorem dueF_len {lim blk : Fm → Option Ky} {dn : Fm → Bool} {flo : List Fm} : (dueF lim blk dn flo).length ≤ flo.length := by
  unfold dueF
  rw [List.length_map]
  exact Nat.le_trans lasts_len (Nat.le_trans (List.length_filterMap_le _ _) (List.length_filter_le _ _))

section
variable {g : Heap} {s0 : Shared} {prog : Program} {w : World} {A : Around} {L a : Addr} {cd : Value} {mg mb : PySem.Str → Option Value} {f : Nat → Addr}
theorem lawA {k : Nat} {m : PySem.Str → Option Value} {own : List (Addr × (Obj → Prop))} {z : Heap} {s : Shared} {Lo dl db dd : Addr} {flo : List Fm} {vlo : List Value} {xl xb xd : DL} (C : Cx g mg mb f) (R : Room A (k + 3)) (hab : s0.heap.objs.size ≤ L)
    (S : St g s0 [] ((L, nsP m) :: (Lo, plainP vlo) :: (dl, dictP prog w xl) :: (db, dictP prog w xb) :: (dd, dictP prog w xd) :: own) z s)
    (hm1 : m "lost" = some (.ref Lo)) (hm2 : m "limits" = some (.ref dl)) (hm3 : m "blocked" = some (.ref db)) (hm4 : m "done" = some (.ref dd)) (hv2 : FrsAt z flo vlo) (hz2 : vlo.length ≤ 30)
    (kl : KeysAt prog w z xl) (kb : KeysAt prog w z xb) (kd : KeysAt prog w z xd) (nl : (dl == sysModules) = false) (nb : (db == sysModules) = false) (nd : (dd == sysModules) = false)
    (vl : ValsOk xl) (vb : ValsOk xb) (P : PureOk (lk xl) (lk xb) (fun f => (atKey xd f).isSome) flo) :
    wpAny (model prog w) A (execs (List.drop 5 (bodyAt 15)) (envOfC (nameAt 15) (scopeAt 15) L a cd)) (fun fl s' => fl = .ret (.bool true) ∧ KeepsX [] s0 s') NoE s := by
  have hlen : flo.length = vlo.length := hv2.length
  refine wpAny_execs_cons ?_
  refine compU (n := vlo.length) (its := fun I i => [(I, lsIterP Lo i)]) (V := fun i v _ => vlo[i]? = some v) (H := fun h => h.IsList Lo vlo.toArray) (cl := [])
    (J := fun i ys own' z' => own' = (Lo, plainP vlo) :: (dl, dictP prog w xl) :: (db, dictP prog w xb) :: (dd, dictP prog w xd) :: own ∧ z' = z ∧ FrsAt z ((flo.take i).filter ffil) ys ∧ ys.length ≤ i) (by omega) rfl S ?_ (fun _ _ _ _ h => h.2.2.2) ?_ ?_ ?_
  · rintro s₆ Q' hQ rfl
    refine ldL S (.head _) hm1 ?_
    refine iterLs S (St.plainL S (.tail _ (.head _))) fun I s₇ S₇ => ?_
    exact hQ I _ _ s₇ (itrLs R.handled I Lo vlo _ (.inl fun _ => rfl)) S₇ ⟨rfl, rfl, .nil, Nat.le_refl _⟩
  · rintro i ys own' z' s' ⟨rfl, rfl, _⟩ D C mC tl S'
    exact St.plainL S' (.tail _ (.tail _ (.tail _ (.head _))))
  · rintro i v ys own' z' s' tl C' D mC hi ⟨rfl, rfl, hp, hle⟩ hvi S'
    obtain ⟨fr, hfi, hfv⟩ := paired_get' hv2 hvi
    have hmem := List.mem_of_getElem? hfi
    obtain ⟨r, hr⟩ := (P.sub fr hmem).1.eq
    obtain ⟨fa, fvs, rfl, hTf, hIf⟩ := id hfv
    have hlf : fr.length = fvs.length := hIf.length
    have hsh := P.short fr hmem
    have e := filter_take_succ (p := ffil) hfi
    refine wpAny_assign_Name ?_
    walk_at "q"
    refine ifs1 ?_
    walk_at "q"
    walk_at "q"
    refine callB1 ‹_› C.N C.B.nlen C.B.blen ?_
    walk_at "qs"
    have S₁ := ‹St g s0 [] ((C', nsP fun y => if y = "frame" then _ else _) :: _) _ _›
    refine lenTp S₁ (IsTup.tup hTf S₁.tu) (by omega) fun t₂ s₂ S₂ => ?_
    walk_at "qs"
    refine iteB (fun hb => ?_) (fun hb => ?_)
    · have hf : ffil fr = true := by
        unfold ffil
        have hb : 1 < (fvs.length : Int) := by simpa using hb
        rw [decide_eq_true (show 1 < fr.length by omega)]; rfl
      simp only [if_true]
      walk_at "qs"
      refine ⟨_, _, _, ‹_›, rfl, rfl, ?_, by simpa using hle⟩
      rw [e, if_pos hf]
      exact hp.snoc hfv
    walk_at "qs"
    refine frItem ‹_› hfv (i := 0) (k := .str (kindF fr)) (by rw [hr]; rfl) (by decide) ?_
    intro x0 hx0
    obtain ⟨tx, rfl⟩ := itemStr hx0
    walk_at "qs"
    refine iteB (fun hb2 => ?_) (fun hb2 => ?_)
    · have hf : ffil fr = true := by
        unfold ffil
        rw [show (kindF fr == ("handshake_done" : PySem.Str)) = true from hb2, Bool.or_true]
      simp only [if_true]
      walk_at "qs"
      refine ⟨_, _, _, ‹_›, rfl, rfl, ?_, by simpa using hle⟩
      rw [e, if_pos hf]
      exact hp.snoc hfv
    · have hf : ffil fr = false := by
        unfold ffil
        have hb : ¬ 1 < (fvs.length : Int) := by simpa using hb
        rw [show (kindF fr == ("handshake_done" : PySem.Str)) = false from hb2, decide_eq_false (show ¬ 1 < fr.length by omega)]; rfl
      walk_at "qs"
      simp only [Bool.false_eq_true, if_false]
      refine ⟨_, _, _, ‹_›, rfl, rfl, ?_, by omega⟩
      rw [e, if_neg (neT hf), List.append_nil]
      exact hp
  · rintro ys own' z' s' Fo ⟨rfl, rfl, hp, hyl⟩ S'
    rw [← hlen, List.take_length] at hp
    refine wpAny_execs_cons (wpAny_Assign_Name ?_)
    refine callG S' C.N C.m14 C.f14 ?_
    walk_at "qs"
    have S₁ := ‹St g s0 [] ((L, nsP _) :: _) _ _›
    have hin1 : (dl, dictP prog w xl) ∈ (L, nsP fun x => if x = "found" then some (.ref Fo) else m x) :: (Fo, plainP ys) :: (Lo, plainP vlo) :: (dl, dictP prog w xl) :: (db, dictP prog w xb) :: (dd, dictP prog w xd) :: own := .tail _ (.tail _ (.tail _ (.head _)))
    have hin2 : (db, dictP prog w xb) ∈ (L, nsP fun x => if x = "found" then some (.ref Fo) else m x) :: (Fo, plainP ys) :: (Lo, plainP vlo) :: (dl, dictP prog w xl) :: (db, dictP prog w xb) :: (dd, dictP prog w xd) :: own := .tail _ (.tail _ (.tail _ (.tail _ (.head _))))
    have hin3 : (dd, dictP prog w xd) ∈ (L, nsP fun x => if x = "found" then some (.ref Fo) else m x) :: (Fo, plainP ys) :: (Lo, plainP vlo) :: (dl, dictP prog w xl) :: (db, dictP prog w xb) :: (dd, dictP prog w xd) :: own := .tail _ (.tail _ (.tail _ (.tail _ (.tail _ (.head _)))))
    refine ⟨⟨_, _, S₁⟩, wpAny_mono (due_spec (k := k + 1) S₁.gkeep C.N C.B C.f14 C.f13 C.m13 R (St.plainL S₁ (.tail _ (.head _))) (hp.up S₁.tu) (S₁.dict hin1 kl) (S₁.dict hin2 kb) (S₁.dict hin3 kd) nl nb nd vl vb ?_ ?_ (by omega)) (fun v' s₂ h₂ => ?_) fun _ _ e => e⟩
    · intro fr hf
      obtain ⟨h1, h2⟩ := List.mem_filter.mp hf
      exact P.abt fr h1 h2
    · intro fr hf
      exact P.long2 fr (List.mem_filter.mp hf).1
    obtain ⟨ws, hN, hw⟩ := h₂
    obtain ⟨Du, rfl, S₂⟩ := S₁.newL hN
    have hwl : ws.length ≤ 30 := by
      have h1 := dueF_len (lim := lk xl) (blk := lk xb) (dn := fun f => (atKey xd f).isSome) (flo := flo)
      have h2 : (dueF (lk xl) (lk xb) (fun f => (atKey xd f).isSome) flo).length = ws.length := hw.length
      omega
    have S₃ : St g s0 [] ((L, nsP _) :: (Fo, plainP ys) :: (Du, plainP ws) :: _) _ _ := S₂.perm ((List.Perm.swap _ _ _).trans (List.Perm.cons _ (List.Perm.swap _ _ _)))
    have S₄ := S₃.drop2.up
    have hv3 := hv2.up S₃.tu
    have kl' := kl.up S₃.tu
    have kb' := kb.up S₃.tu
    have kd' := kd.up S₃.tu
    clear S₃ S₂ S₁ hin1 hin2 hin3
    walk_at "q"
    have S₅ := ‹St g s0 [] ((L, nsP fun y => if y = "due" then _ else _) :: _) _ _›
    exact lawB C R hab S₅ rfl hm1 hm2 hm3 hm4 hw hv3 P.due hwl hz2 P.one P.two kl' kb' kd' nl nb nd vl vb P.sub P.long P.res P.eq P.hold
end

/-! the law's body: statements 3, 4 -/
theorem ValsOk.stored {xs : DL} {k : Fm} {a : Addr} {v : Value} (h : ValsOk xs) (hv : isKy (kyV v) v = true) : ValsOk (storedH xs k a v) := by
  unfold storedH
  split
  · intro y hy
    obtain ⟨p, hp, rfl⟩ := List.mem_map.mp hy
    unfold putAt
    split
    · exact hv
    · exact h p hp
  · intro y hy
    rcases List.mem_append.mp hy with hy | hy
    · exact h y hy
    · rw [List.mem_singleton.mp hy]; exact hv
theorem storedH_len {xs : DL} {k : Fm} {a : Addr} {v : Value} : (storedH xs k a v).length ≤ xs.length + 1 := by
  unfold storedH; split <;> simp
theorem ValsOk.lk {xs : DL} (h : ValsOk xs) : ∀ f k, lk xs f = some k → k ≠ Ky.opq := by
  intro f k e
  unfold Tq.lk at e
  obtain ⟨p, hp, rfl⟩ := Option.map_eq_some_iff.mp e
  intro e
  have := h.at hp
  rw [e] at this
  exact absurd this (by cases p.2 <;> exact Bool.false_ne_true)
theorem hd_one {f : Fm} (h : Hd f) (h1 : ¬ 1 < f.length) : Ky.opq ∉ f := by
  obtain ⟨x, r, rfl⟩ := h
  cases r with
  | nil => intro e; rw [List.mem_singleton] at e; cases e
  | cons => simp at h1

section
variable {g : Heap} {s0 : Shared} {prog : Program} {w : World} {A : Around} {L a : Addr} {cd : Value} {mg mb : PySem.Str → Option Value} {f : Nat → Addr}
theorem law4 {k : Nat} {m : PySem.Str → Option Value} {z : Heap} {s : Shared} {Lo dl db dd P scr : Addr} {flo : List Fm} {vlo vscr : List Value} {ns : List Int} (C : Cx g mg mb f) (R : Room A (k + 3)) (hab : s0.heap.objs.size ≤ L)
    (S : St g s0 [] [(L, nsP m), (Lo, plainP vlo), (dl, dictP prog w []), (db, dictP prog w []), (dd, dictP prog w []), (P, poolP scr), (L + 1, cellP (some (.ref P))), (scr, plainP vscr)] z s)
    (hm1 : m "lost" = some (.ref Lo)) (hm2 : m "limits" = some (.ref dl)) (hm3 : m "blocked" = some (.ref db)) (hm4 : m "done" = some (.ref dd)) (hv2 : FrsAt z flo vlo) (hz2 : vlo.length ≤ 30) (hne : scr ≠ P) (hi : IntsAre vscr ns) (hns : ns.length ≤ 63)
    (nl : (dl == sysModules) = false) (nb : (db == sysModules) = false) (nd : (dd == sysModules) = false)
    (HP : ∀ lim blk dn, (∀ f k, lim f = some k → k ≠ Ky.opq) → (∀ f k, blk f = some k → k ≠ Ky.opq) → PureOk lim blk dn flo) :
    wpAny (model prog w) A (execs (List.drop 4 (bodyAt 15)) (envOfC (nameAt 15) (scopeAt 15) L a cd)) (fun fl s' => fl = .ret (.bool true) ∧ KeepsX [] s0 s') NoE s := by
  have P0 := HP (fun _ => none) (fun _ => none) (fun _ => false) (fun _ _ e => by cases e) (fun _ _ e => by cases e)
  refine wpAny_execs_cons (wpAny_For ?_)
  refine ldL S (.head _) hm1 ?_
  refine iterLs S (St.plainL S (.tail _ (.head _))) fun I s₄ S₄ => ?_
  refine forA (itrLs R.handled I Lo vlo _ (.inl fun _ => rfl)) (fun i own' z' => ∃ m' xl xb xd, own' = [(L, nsP m'), (Lo, plainP vlo), (dl, dictP prog w xl), (db, dictP prog w xb), (dd, dictP prog w xd), (P, poolP scr), (L + 1, cellP (some (.ref P))), (scr, plainP vscr)] ∧
      m' "lost" = some (.ref Lo) ∧ m' "limits" = some (.ref dl) ∧ m' "blocked" = some (.ref db) ∧ m' "done" = some (.ref dd) ∧ KeysAt prog w z' xl ∧ KeysAt prog w z' xb ∧ KeysAt prog w z' xd ∧ ValsOk xl ∧ ValsOk xb ∧ xl.length ≤ i ∧ xb.length ≤ i ∧ xd.length ≤ i ∧ TupSub z z')
    S₄ ⟨m, [], [], [], rfl, hm1, hm2, hm3, hm4, (fun x hx => nomatch hx), (fun x hx => nomatch hx), (fun x hx => nomatch hx), (fun x hx => nomatch hx), (fun x hx => nomatch hx), Nat.le_refl _, Nat.le_refl _, Nat.le_refl _, TupSub.refl _⟩ ?_ ?_ ?_
  · rintro i own' z' s' ⟨m', xl, xb, xd, rfl, _⟩ tl S'
    exact St.plainL S' (.tail _ (.head _))
  · rintro i v own' z' s' tl hlt ⟨m', xl, xb, xd, rfl, p1, p2, p3, p4, kl, kb, kd, vl, vb, ll, lb, ld, ht⟩ hx S'
    obtain ⟨fr, hfi, hfv⟩ := paired_get' (hv2.up ht) hx
    have hmem := List.mem_of_getElem? hfi
    obtain ⟨r, hr⟩ := (P0.sub fr hmem).1.eq
    obtain ⟨fa, fvs, rfl, hTf, hIf⟩ := id hfv
    have hlf : fr.length = fvs.length := hIf.length
    have hsh := P0.short fr hmem
    walk_at "qs"
    refine callG ‹_› C.N C.m11 C.f11 ?_
    walk_at "q"
    have S₅ := ‹St g s0 [] ((L, nsP fun y => if y = "frame" then _ else _) :: _) _ _›
    have scrAt : ∀ {m : PySem.Str → Option Value} {xl xb xd z s}, St g s0 [] ([(L, nsP m), (Lo, plainP vlo), (dl, dictP prog w xl), (db, dictP prog w xb), (dd, dictP prog w xd), (P, poolP scr), (L + 1, cellP (some (.ref P))), (scr, plainP vscr)] ++ tl) z s → ScrAt s.heap scr :=
      fun S => ⟨vscr, ns, St.plainL S (.tail _ (.tail _ (.tail _ (.tail _ (.tail _ (.tail _ (.tail _ (.head _)))))))), hi, by omega⟩
    refine ldC (c := L + 1) (v := .ref P) S₅ rfl (by k_mem) ?_
    walk_at "qs"
    have S₆ := ‹St g s0 [] ((L, nsP fun y => if y = "frame" then _ else _) :: _) _ _›
    refine ⟨⟨_, _, S₆⟩, drawS S₆ (by k_mem) C.N C.f11 R (scrAt S₆) hne (by decide) C.B ?_⟩
    intro rr tr s₇ S₇ _ hr0 hr1
    clear S₅ S₆
    walk_at "q"
    have S₈ := ‹St g s0 [] ((L, nsP fun y => if y = "form" then _ else _) :: _) _ _›
    generalize hM : (fun y : PySem.Str => if y = "form" then _ else _) = m₀ at S₈ ⊢
    have M1 : m₀ "frame" = some (.ref fa) := by rw [← hM]; rfl
    have M2 : m₀ "form" = some (.int rr tr) := by rw [← hM]; rfl
    have M3 : m₀ "lost" = some (.ref Lo) := by rw [← hM]; exact p1
    have M4 : m₀ "limits" = some (.ref dl) := by rw [← hM]; exact p2
    have M5 : m₀ "blocked" = some (.ref db) := by rw [← hM]; exact p3
    have M6 : m₀ "done" = some (.ref dd) := by rw [← hM]; exact p4
    clear hM S₇
    have lenE : ∀ (p1 p2 p3 : Pos) (sX : Shared) (z'' : Heap) (Q : Value → Shared → Prop), TupSub z' z'' → St g s0 [] ([(L, nsP m₀), (Lo, plainP vlo), (dl, dictP prog w xl), (db, dictP prog w xb), (dd, dictP prog w xd), (P, poolP scr), (L + 1, cellP (some (.ref P))), (scr, plainP vscr)] ++ tl) z'' sX →
        (∀ t sY, St g s0 [] ([(L, nsP m₀), (Lo, plainP vlo), (dl, dictP prog w xl), (db, dictP prog w xb), (dd, dictP prog w xd), (P, poolP scr), (L + 1, cellP (some (.ref P))), (scr, plainP vscr)] ++ tl) z'' sY → Q (.int (fvs.length : Int) t) sY) → wpAny (model prog w) A (eval (.Call (.Name "len" p1) [.Name "frame" p2] [] p3) (envOfC (nameAt 15) (scopeAt 15) L a cd)) Q NoE sX := by
      intro p1 p2 p3 sX z'' Q tz SX hQ
      refine callB1 SX C.N C.B.nlen C.B.blen ?_
      refine ldL SX (.head _) M1 ?_
      exact lenTp SX (IsTup.tup hTf (tz.trans SX.tu)) (by omega) hQ
    walk_at "qs"
    refine iteB (fun hb => ?_) (fun hb => ?_)
    · walk_at "qs"
      refine callG ‹_› C.N C.m11 C.f11 ?_
      walk_at "q"
      refine ldC (c := L + 1) (v := .ref P) ‹St g s0 [] ((L, nsP m₀) :: _) _ _› rfl (by k_mem) ?_
      walk_at "qs"
      have S₉ := ‹St g s0 [] ((L, nsP m₀) :: _) _ _›
      refine ⟨⟨_, _, S₉⟩, drawS S₉ (by k_mem) C.N C.f11 R (scrAt S₉) hne (by decide) C.B ?_⟩
      intro r2 t2 s₁₀ S₁₀ _ _ _
      clear S₉
      walk_at "q"
      rename_i t3 s₁₁ S₁₁
      refine ldL S₁₁ (.head _) M4 ?_
      refine wpAny_mono (?h : wpAny _ _ _ (fun y sX => ∃ ky, Ky.opq ∉ ky ∧ FrAt sX.heap ky y ∧ St g s0 [] ([(L, nsP m₀), (Lo, plainP vlo), (dl, dictP prog w xl), (db, dictP prog w xb), (dd, dictP prog w xd), (P, poolP scr), (L + 1, cellP (some (.ref P))), (scr, plainP vscr)] ++ tl) z' sX) NoE _) (fun y sX h => ?_) fun _ _ e => e
      case h =>
        walk_at "q"
        walk_at "q"
        refine lenE _ _ _ _ _ _ (TupSub.refl _) S₁₁ fun t4 s₁₂ S₁₂ => ?_
        walk_at "qs"
        refine iteB (fun hb2 => ?_) (fun hb2 => ?_)
        · have hb2 : 1 < (fvs.length : Int) := by simpa using hb2
          have ha := P0.abt fr hmem (by unfold ffil; rw [decide_eq_true (show 1 < fr.length by omega)]; rfl)
          refine callG ‹_› C.N C.m13 C.f13 ?_
          walk_at "qs"
          have S₁₃ := ‹St g s0 [] ((L, nsP m₀) :: _) _ _›
          refine ⟨⟨_, _, S₁₃⟩, wpAny_mono (abt_spec S₁₃.gkeep C.N C.f13 R (hfv.up S₁₃.tu) hr (ha.two hr)) (fun v₂ s₁₄ h₁₄ => ?_) fun _ _ e => e⟩
          obtain ⟨K₁₄, hv₁₄⟩ := h₁₄
          exact ⟨_, ha.2.2, hv₁₄, S₁₃.keeps K₁₄⟩
        · have hb2 : ¬ 1 < (fvs.length : Int) := by simpa using hb2
          walk_at "qs"
          have S₁₃ := ‹St g s0 [] ((L, nsP m₀) :: _) _ _›
          exact ⟨fr, hd_one (P0.sub fr hmem).1 (by omega), hfv.up S₁₃.tu, S₁₃⟩
      obtain ⟨ky, hky, hyv, SX⟩ := h
      refine setD (pre := [_, _]) R.u1 SX kl hyv hky (by omega) fun a' s₁₅ _ S₁₅ k₁₅ => ?_
      walk_at "qs"
      refine ⟨[_, _, _, _, _, _, _, _], _, S₁₅, ?_⟩
      exact ⟨m₀, _, xb, xd, rfl, M3, M4, M5, M6, k₁₅, kb.up SX.tu, kd.up SX.tu, vl.stored (by simp [kyV, isKy]), vb, Nat.le_trans storedH_len (by omega), by omega, by omega, ht.trans SX.tu⟩
    · have goB : ∀ sX, St g s0 [] ([(L, nsP m₀), (Lo, plainP vlo), (dl, dictP prog w xl), (db, dictP prog w xb), (dd, dictP prog w xd), (P, poolP scr), (L + 1, cellP (some (.ref P))), (scr, plainP vscr)] ++ tl) z' sX →
          ∃ own₂ z₂, St g s0 [] (own₂ ++ tl) z₂ sX ∧ ∃ m' xl xb xd, own₂ = [(L, nsP m'), (Lo, plainP vlo), (dl, dictP prog w xl), (db, dictP prog w xb), (dd, dictP prog w xd), (P, poolP scr), (L + 1, cellP (some (.ref P))), (scr, plainP vscr)] ∧
          m' "lost" = some (.ref Lo) ∧ m' "limits" = some (.ref dl) ∧ m' "blocked" = some (.ref db) ∧ m' "done" = some (.ref dd) ∧ KeysAt prog w z₂ xl ∧ KeysAt prog w z₂ xb ∧ KeysAt prog w z₂ xd ∧ ValsOk xl ∧ ValsOk xb ∧ xl.length ≤ i + 1 ∧ xb.length ≤ i + 1 ∧ xd.length ≤ i + 1 ∧ TupSub z z₂ :=
        fun sX SX => ⟨_, _, SX, m₀, xl, xb, xd, rfl, M3, M4, M5, M6, kl, kb, kd, vl, vb, by omega, by omega, by omega, ht⟩
      walk_at "qs"
      refine iteB (fun hb2 => ?_) (fun hb2 => ?_)
      · walk_at "q"
        walk_at "q"
        refine lenE _ _ _ _ _ _ (TupSub.refl _) ‹_› fun t4 s₁₂ S₁₂ => ?_
        walk_at "qs"
        refine iteB (fun hb3 => ?_) (fun hb3 => ?_)
        · have hb3 : 1 < (fvs.length : Int) := by simpa using hb3
          have ha := P0.abt fr hmem (by unfold ffil; rw [decide_eq_true (show 1 < fr.length by omega)]; rfl)
          walk_at "qs"
          rw [if_pos rfl]
          walk_at "qs"
          refine callG ‹_› C.N C.m11 C.f11 ?_
          walk_at "q"
          refine ldC (c := L + 1) (v := .ref P) ‹St g s0 [] ((L, nsP m₀) :: _) _ _› rfl (by k_mem) ?_
          walk_at "qs"
          have S₉ := ‹St g s0 [] ((L, nsP m₀) :: _) _ _›
          refine ⟨⟨_, _, S₉⟩, drawS S₉ (by k_mem) C.N C.f11 R (scrAt S₉) hne (by decide) C.B ?_⟩
          intro r2 t2 s₁₀ S₁₀ _ _ _
          clear S₉
          walk_at "q"
          rename_i t3 s₁₁ S₁₁
          refine ldL S₁₁ (.head _) M5 ?_
          refine callG S₁₁ C.N C.m13 C.f13 ?_
          walk_at "qs"
          have S₁₃ := ‹St g s0 [] ((L, nsP m₀) :: _) _ _›
          refine ⟨⟨_, _, S₁₃⟩, wpAny_mono (abt_spec S₁₃.gkeep C.N C.f13 R (hfv.up S₁₃.tu) hr (ha.two hr)) (fun v₂ s₁₄ h₁₄ => ?_) fun _ _ e => e⟩
          obtain ⟨K₁₄, hv₁₄⟩ := h₁₄
          have SX := S₁₃.keeps K₁₄
          refine setD (pre := [_, _, _]) R.u1 SX kb hv₁₄ ha.2.2 (by omega) fun a' s₁₅ _ S₁₅ k₁₅ => ?_
          walk_at "qs"
          refine ⟨[_, _, _, _, _, _, _, _], _, S₁₅, ?_⟩
          exact ⟨m₀, xl, _, xd, rfl, M3, M4, M5, M6, kl.up SX.tu, k₁₅, kd.up SX.tu, vl, vb.stored (by simp [kyV, isKy]), by omega, Nat.le_trans storedH_len (by omega), by omega, ht.trans SX.tu⟩
        · rw [if_neg Bool.false_ne_true]
          walk_at "qs"
          refine iteB (fun hc1 => ?_) (fun hc1 => ?_)
          · walk_at "qs"
            refine callG ‹_› C.N C.m11 C.f11 ?_
            walk_at "q"
            refine ldC (c := L + 1) (v := .ref P) ‹St g s0 [] ((L, nsP m₀) :: _) _ _› rfl (by k_mem) ?_
            walk_at "qs"
            have S₉ := ‹St g s0 [] ((L, nsP m₀) :: _) _ _›
            refine ⟨⟨_, _, S₉⟩, drawS S₉ (by k_mem) C.N C.f11 R (scrAt S₉) hne (by decide) C.B ?_⟩
            intro r2 t2 s₁₀ S₁₀ _ _ _
            clear S₉
            walk_at "qs"
            refine iteB (fun hc2 => ?_) (fun hc2 => ?_)
            · walk_at "q"
              walk_at "q"
              refine lenE _ _ _ _ _ _ (TupSub.refl _) ‹_› fun t4 s₁₂ S₁₂ => ?_
              walk_at "qs"
              refine iteB (fun hb3 => ?_) (fun hb3 => ?_)
              · have hb3 : 1 < (fvs.length : Int) := by simpa using hb3
                have ha := P0.abt fr hmem (by unfold ffil; rw [decide_eq_true (show 1 < fr.length by omega)]; rfl)
                walk_at "qs"
                rw [if_pos rfl]
                walk_at "q"
                walk_at "q"
                walk_at "q"
                have S₁₁ := ‹St g s0 [] ((L, nsP m₀) :: _) _ _›
                refine ldL S₁₁ (.head _) M6 ?_
                refine callG S₁₁ C.N C.m13 C.f13 ?_
                walk_at "qs"
                have S₁₃ := ‹St g s0 [] ((L, nsP m₀) :: _) _ _›
                refine ⟨⟨_, _, S₁₃⟩, wpAny_mono (abt_spec S₁₃.gkeep C.N C.f13 R (hfv.up S₁₃.tu) hr (ha.two hr)) (fun v₂ s₁₄ h₁₄ => ?_) fun _ _ e => e⟩
                obtain ⟨K₁₄, hv₁₄⟩ := h₁₄
                have SX := S₁₃.keeps K₁₄
                refine setD (pre := [_, _, _, _]) R.u1 SX kd hv₁₄ ha.2.2 (by omega) fun a' s₁₅ _ S₁₅ k₁₅ => ?_
                walk_at "qs"
                refine ⟨[_, _, _, _, _, _, _, _], _, S₁₅, ?_⟩
                exact ⟨m₀, xl, xb, _, rfl, M3, M4, M5, M6, kl.up SX.tu, kb.up SX.tu, k₁₅, vl, vb, by omega, by omega, Nat.le_trans storedH_len (by omega), ht.trans SX.tu⟩
              · rw [if_neg Bool.false_ne_true]
                walk_at "qs"
                exact goB _ ‹_›
            · rw [if_neg Bool.false_ne_true]
              walk_at "qs"
              exact goB _ ‹_›
          · rw [if_neg Bool.false_ne_true]
            walk_at "qs"
            exact goB _ ‹_›
      · rw [if_neg Bool.false_ne_true]
        walk_at "qs"
        refine iteB (fun hc1 => ?_) (fun hc1 => ?_)
        · walk_at "qs"
          refine callG ‹_› C.N C.m11 C.f11 ?_
          walk_at "q"
          refine ldC (c := L + 1) (v := .ref P) ‹St g s0 [] ((L, nsP m₀) :: _) _ _› rfl (by k_mem) ?_
          walk_at "qs"
          have S₉ := ‹St g s0 [] ((L, nsP m₀) :: _) _ _›
          refine ⟨⟨_, _, S₉⟩, drawS S₉ (by k_mem) C.N C.f11 R (scrAt S₉) hne (by decide) C.B ?_⟩
          intro r2 t2 s₁₀ S₁₀ _ _ _
          clear S₉
          walk_at "qs"
          refine iteB (fun hc2 => ?_) (fun hc2 => ?_)
          · walk_at "q"
            walk_at "q"
            refine lenE _ _ _ _ _ _ (TupSub.refl _) ‹_› fun t4 s₁₂ S₁₂ => ?_
            walk_at "qs"
            refine iteB (fun hb3 => ?_) (fun hb3 => ?_)
            · have hb3 : 1 < (fvs.length : Int) := by simpa using hb3
              have ha := P0.abt fr hmem (by unfold ffil; rw [decide_eq_true (show 1 < fr.length by omega)]; rfl)
              walk_at "qs"
              rw [if_pos rfl]
              walk_at "q"
              walk_at "q"
              walk_at "q"
              have S₁₁ := ‹St g s0 [] ((L, nsP m₀) :: _) _ _›
              refine ldL S₁₁ (.head _) M6 ?_
              refine callG S₁₁ C.N C.m13 C.f13 ?_
              walk_at "qs"
              have S₁₃ := ‹St g s0 [] ((L, nsP m₀) :: _) _ _›
              refine ⟨⟨_, _, S₁₃⟩, wpAny_mono (abt_spec S₁₃.gkeep C.N C.f13 R (hfv.up S₁₃.tu) hr (ha.two hr)) (fun v₂ s₁₄ h₁₄ => ?_) fun _ _ e => e⟩
              obtain ⟨K₁₄, hv₁₄⟩ := h₁₄
              have SX := S₁₃.keeps K₁₄
              refine setD (pre := [_, _, _, _]) R.u1 SX kd hv₁₄ ha.2.2 (by omega) fun a' s₁₅ _ S₁₅ k₁₅ => ?_
              walk_at "qs"
              refine ⟨[_, _, _, _, _, _, _, _], _, S₁₅, ?_⟩
              exact ⟨m₀, xl, xb, _, rfl, M3, M4, M5, M6, kl.up SX.tu, kb.up SX.tu, k₁₅, vl, vb, by omega, by omega, Nat.le_trans storedH_len (by omega), ht.trans SX.tu⟩
            · rw [if_neg Bool.false_ne_true]
              walk_at "qs"
              exact goB _ ‹_›
          · rw [if_neg Bool.false_ne_true]
            walk_at "qs"
            exact goB _ ‹_›
        · rw [if_neg Bool.false_ne_true]
          walk_at "qs"
          exact goB _ ‹_›
  · rintro own' z' s' ⟨m', xl, xb, xd, rfl, p1, p2, p3, p4, kl, kb, kd, vl, vb, ll, lb, ld, ht⟩ S'
    exact lawA C R hab S' p1 p2 p3 p4 (hv2.up ht) hz2 kl kb kd nl nb nd vl vb (HP _ _ _ vl.lk vb.lk)
end

/-! the law's body: statements 0 to 3 -/
def chal : Fm := [.str "path_challenge", .bytes [97, 98, 99, 100, 101, 102, 103, 104]]
def Menu (f : Fm) : Prop := (∃ x y, 0 ≤ x ∧ x < 3 ∧ f ∈ menuF x y) ∨ f = chal
section
variable {g : Heap} {s0 : Shared} {prog : Program} {w : World} {A : Around} {L a : Addr} {cd : Value} {mg mb : PySem.Str → Option Value} {f : Nat → Addr}
theorem law3 {k : Nat} {m : PySem.Str → Option Value} {z : Heap} {s : Shared} {Lo P scr : Addr} {flo : List Fm} {vlo vscr : List Value} {ns : List Int} (C : Cx g mg mb f) (R : Room A (k + 3)) (hab : s0.heap.objs.size ≤ L)
    (S : St g s0 [] [(L, nsP m), (Lo, plainP vlo), (P, poolP scr), (L + 1, cellP (some (.ref P))), (scr, plainP vscr)] z s)
    (hm1 : m "lost" = some (.ref Lo)) (hv2 : FrsAt z flo vlo) (hz2 : vlo.length ≤ 30) (hne : scr ≠ P) (hi : IntsAre vscr ns) (hns : ns.length ≤ 63)
    (HP : ∀ lim blk dn, (∀ f k, lim f = some k → k ≠ Ky.opq) → (∀ f k, blk f = some k → k ≠ Ky.opq) → PureOk lim blk dn flo) :
    wpAny (model prog w) A (execs (List.drop 3 (bodyAt 15)) (envOfC (nameAt 15) (scopeAt 15) L a cd)) (fun fl s' => fl = .ret (.bool true) ∧ KeepsX [] s0 s') NoE s := by
  refine wpAny_execs_cons (Assign_Tuple_swapped ?_)
  walk_at "q"
  walk_at "q"
  refine newD S C.N fun d1 s₁ n1 S₁ K₁ => ?_
  walk_at "q"
  refine newD S₁ C.N fun d2 s₂ n2 S₂ K₂ => ?_
  walk_at "q"
  refine newD S₂ C.N fun d3 s₃ n3 S₃ K₃ => ?_
  have S₄ : St g s0 [] ([(L, nsP m), (Lo, plainP vlo), (d1, dictP prog w []), (d2, dictP prog w []), (d3, dictP prog w [])] ++ [(P, poolP scr), (L + 1, cellP (some (.ref P))), (scr, plainP vscr)]) z s₃ :=
    S₃.perm ((((List.reverse_perm [(d3, dictP prog w []), (d2, dictP prog w []), (d1, dictP prog w []), (L, nsP m), (Lo, plainP vlo)]).symm.trans (List.Perm.swap _ _ _))).append_right [(P, poolP scr), (L + 1, cellP (some (.ref P))), (scr, plainP vscr)])
  clear S₃ S₂ S₁
  walk_at "qs"
  refine unpk ‹_› ‹_› R.handled rfl ?_
  intro s₉ S₉ _
  refine wpAny_assignInOrder_more (wpAny_bindName ?_)
  walk_at "q"
  refine wpAny_assignInOrder_more (wpAny_bindName ?_)
  walk_at "q"
  refine wpAny_assignInOrder_more (wpAny_bindName ?_)
  walk_at "q"
  refine wpAny_assignInOrder_none ?_
  have S₁₀ := ‹St g s0 [] ((L, nsP fun y => if y = "limits" then _ else _) :: _) _ _›
  exact law4 C R hab S₁₀ hm1 rfl rfl rfl hv2 hz2 hne hi hns n1 n2 n3 HP

theorem frameS {own : List (Addr × (Obj → Prop))} {z : Heap} {s : Shared} {P scr : Addr} {k : Nat} {Q : Value → Shared → Prop} (C : Cx g mg mb f) (S : St g s0 [] own z s) (hmem : (P, poolP scr) ∈ own) (R : Room A (k + 2))
    (hsc : ScrAt s.heap scr) (hne : scr ≠ P) (h : ∀ fr v s₂, St g s0 [] own z s₂ → Menu fr → FrAt s₂.heap fr v → Q v s₂) :
    wpAny (model prog w) A (call (.ref (f 12)) [.ref P]) Q NoE s := by
  obtain ⟨o, e, q, _⟩ := S.at hmem
  refine wpAny_mono (frame_spec S.gkeep C.N C.f12 C.f11 C.m11 R ⟨o, e, q⟩ hsc hne (S.gne hmem) C.B) (fun v s' hv => ?_) fun _ _ e => e
  obtain ⟨K, ⟨o', e', q'⟩, x, y, fr, h0, h1, hf, hfv⟩ := hv
  obtain ⟨hh, tk, rfl⟩ := K.alike
  have hk : ∀ b o, b ≠ P → s.heap.get? b = some o → hh.get? b = some o := fun b o hb e => K.keep b o (by simpa using hb) e
  exact h fr v _ (S.same hmem (tk := tk) hk e' q' (poolP_tp q')) (.inl ⟨x, y, h0, h1, hf⟩) hfv

theorem cBytes {own : List (Addr × (Obj → Prop))} {z : Heap} {s : Shared} {env : Env} {b : List UInt8} {k : Nat} {pos : Pos} {Q : Value → Shared → Prop} (S : St g s0 [] own z s) (h : ∀ v s₁, St g s0 [] own z s₁ → isKy (.bytes b) v = true → Q v s₁) :
    wpAny (model prog w) A (eval (.Constant (.bytes b) k pos) env) Q NoE s :=
  fun Γ p hΓ => (wpAny_mkTextBytes (M := model prog w) (A := A) (E := NoE) (h _ _ (S.toks _) (by simp [isKy]))) Γ p hΓ

theorem law2 {k : Nat} {m : PySem.Str → Option Value} {z : Heap} {s : Shared} {P scr : Addr} {vscr : List Value} {ns : List Int} (C : Cx g mg mb f) (R : Room A (k + 3)) (hab : s0.heap.objs.size ≤ L)
    (S : St g s0 [] [(L, nsP m), (P, poolP scr), (L + 1, cellP (some (.ref P))), (scr, plainP vscr)] z s)
    (hne : scr ≠ P) (hi : IntsAre vscr ns) (hns : ns.length ≤ 63)
    (HP : ∀ flo, (∀ f ∈ flo, Menu f) → ∀ lim blk dn, (∀ f k, lim f = some k → k ≠ Ky.opq) → (∀ f k, blk f = some k → k ≠ Ky.opq) → PureOk lim blk dn flo) :
    wpAny (model prog w) A (execs (List.drop 2 (bodyAt 15)) (envOfC (nameAt 15) (scopeAt 15) L a cd)) (fun fl s' => fl = .ret (.bool true) ∧ KeepsX [] s0 s') NoE s := by
  refine wpAny_execs_cons (wpAny_Assign_Name ?_)
  walk_at "q"
  refine compE2 (g := g) (s0 := s0) (ex := []) (q0 := (L, nsP m)) (cl := [("pool", L + 1)]) rfl ?_
  refine callT1 S C.N C.B.nrange C.B.brange ?_
  walk_at "q"
  walk_at "q"
  have S₁ := ‹St g s0 [] ((L, nsP m) :: _) _ _›
  refine callG S₁ C.N C.m11 C.f11 ?_
  walk_at "q"
  refine ldC (c := L + 1) (v := .ref P) S₁ rfl (by k_mem) ?_
  walk_at "qs"
  have S₂ := ‹St g s0 [] ((L, nsP m) :: _) _ _›
  refine ⟨⟨_, _, S₂⟩, drawS S₂ (by k_mem) C.N C.f11 R ⟨vscr, ns, St.plainL S₂ (by k_mem), hi, by omega⟩ hne (by decide) C.B ?_⟩
  intro r t s₃ S₃ _ h0 h7
  walk_at "q"
  rename_i t4 s₄ S₄
  have en : (3 : Int) + r = (((3 + r).toNat : Nat) : Int) := by omega
  rw [en]
  generalize hN : (3 + r).toNat = n
  have hn : n ≤ 10 := by omega
  refine iterRg (by omega) S₄ fun I s₅ S₅ => ?_
  refine ⟨I, n, fun i => [(I, rgP i n)], fun _ => True, fun i v _ => ∃ t, v = .int (i : Int) t, [(P, poolP scr), (L + 1, cellP (some (.ref P))), (scr, plainP vscr)], z,
    fun i ys own' z' => own' = [(P, poolP scr), (L + 1, cellP (some (.ref P))), (scr, plainP vscr)] ∧ ys.length ≤ i ∧ ∃ fs, FrsAt z' fs ys ∧ ∀ f ∈ fs, Menu f,
    rfl, itrRg R.handled I n _ (fun _ => rfl), by omega, S₅, ⟨rfl, Nat.le_refl _, [], .nil, fun _ h => nomatch h⟩, fun _ _ _ _ h => h.2.1, ?_, ?_, ?_⟩
  · intros; trivial
  · rintro i v ys own' z' s' tl C' D mC hilt ⟨rfl, hle, fs, hfs, hmf⟩ ⟨t, rfl⟩ S'
    iterate 2 walk_at "q"
    refine ifs0 ?_
    simp only [if_true]
    refine callG ‹_› C.N C.m12 C.f12 ?_
    walk_at "q"
    have S₆ := ‹St g s0 [] ((C', nsP fun y => if y = "turn" then _ else _) :: _) _ _›
    refine ldC (c := L + 1) (v := .ref P) S₆ rfl (by k_mem) ?_
    walk_at "qs"
    refine ⟨⟨_, _, S₆⟩, frameS C S₆ (by k_mem) R ⟨vscr, ns, St.plainL S₆ (by k_mem), hi, by omega⟩ hne fun fr v s₇ S₇ hmn hfv => ?_⟩
    refine ⟨_, _, _, S₇.up, rfl, by rw [List.length_append, List.length_singleton]; omega, fs ++ [fr], (hfs.up S₇.tu).snoc hfv, ?_⟩
    intro f' hf'
    rcases List.mem_append.mp hf' with h | h
    · exact hmf f' h
    · rw [List.mem_singleton.mp h]; exact hmn
  · rintro ys own' z' s' D ⟨rfl, hle, fs, hfs, hmf⟩ S'
    walk_at "q"
    walk_at "q"
    walk_at "q"
    walk_at "q"
    walk_at "q"
    rename_i t5 s₆ S₆
    walk_at "q"
    refine cBytes S₆ fun bv s₇ S₇ hbv => ?_
    walk_at "q"
    walk_at "q"
    rename_i T s₈ S₈ K₈ hT
    have t₈ := S₈.tu
    have S₈ := S₈.up
    walk_at "q"
    walk_at "q"
    rename_i W s₉ S₉
    have hfr : FrAt s₈.heap chal (.ref T) := ⟨T, _, rfl, hT, .cons (.inr (isKyS _ _)) (.cons (.inr hbv) .nil)⟩
    refine addLs S₉ (St.plainL S₉ (.tail _ (.tail _ (.head _)))) (St.plainL S₉ (.tail _ (.head _))) (by rw [List.length_singleton, sizeLine_eq]; omega) fun Lo s₁₀ S₁₀ => ?_
    walk_at "q"
    have S₁₁ := ‹St g s0 [] ((L, nsP fun y => if y = "lost" then _ else _) :: _) _ _›
    have S₁₂ : St g s0 [] ((L, nsP fun y => if y = "lost" then some (.ref Lo) else m y) :: (W, plainP [.ref T]) :: (D, plainP ys) :: (Lo, plainP (ys ++ [.ref T])) :: [(P, poolP scr), (L + 1, cellP (some (.ref P))), (scr, plainP vscr)]) _ _ :=
      S₁₁.perm (List.Perm.cons _ ((List.Perm.swap _ _ _).trans (List.Perm.cons _ (List.Perm.swap _ _ _))))
    refine law3 C R hab S₁₂.drop2.drop2 rfl ((hfs.up t₈).snoc hfr) (by rw [List.length_append, List.length_singleton]; omega) hne hi hns (HP _ ?_)
    intro f' hf'
    rcases List.mem_append.mp hf' with h | h
    · exact hmf f' h
    · rw [List.mem_singleton.mp h]; exact .inr rfl
end

/-! the law's body: statements 0, 1 -/
section
variable {g : Heap} {s0 : Shared} {ex : List Addr} {z : Heap} {s : Shared} {prog : Program} {w : World} {A : Around} {env : Env}
theorem compU2 {L : Addr} {m : PySem.Str → Option Value} {elt target iter : Expr} {ifs : List Expr} {scope : Scope} {pos spos py : Pos} {y : PySem.Str} {cl : List (PySem.Str × Addr)} {Q : Flow → Shared → Prop} (hclos : closureFor scope env = pure cl)
    (h : wpAny (model prog w) A (eval iter env) (fun x s₁ => wpAny (model prog w) A (pyIter x) (fun it s₂ => ∃ (I : Addr) (n : Nat) (its : Nat → List (Addr × (Obj → Prop))) (H : Heap → Prop) (V : Nat → Value → Heap → Prop) (own : List (Addr × (Obj → Prop))) (z : Heap) (J : Nat → List Value → List (Addr × (Obj → Prop)) → Heap → Prop),
      it = .ref I ∧ Itr prog w A target I n its H V ∧ n ≤ 1000 ∧ St g s0 ex ((L, nsP m) :: (own ++ its 0)) z s₂ ∧ J 0 [] own z ∧ (∀ i ys own' z', J i ys own' z' → ys.length ≤ i) ∧
      (∀ i ys own' z' s', J i ys own' z' → ∀ D C mC tl, St g s0 ex ((C, nsP mC) :: (D, plainP ys) :: (L, nsP m) :: (own' ++ tl)) z' s' → H s'.heap) ∧
      (∀ i v ys own' z' s₁ tl C D mC, i < n → J i ys own' z' → V i v s₁.heap → St g s0 ex ((C, nsP mC) :: (D, plainP ys) :: (L, nsP m) :: (own' ++ tl)) z' s₁ →
        wpAny (model prog w) A (assign target (compEnvC scope cl C env) v) (fun _ s₂ =>
          wpAny (model prog w) A (forIn ifs true fun c r => if r = true then do let ok ← isTrue c (compEnvC scope cl C env) (eval c (compEnvC scope cl C env)); pure (ForInStep.yield ok) else pure (ForInStep.yield r)) (fun ok s₃ =>
            if ok = true then wpAny (model prog w) A (eval elt (compEnvC scope cl C env)) (fun y s₄ => ∃ mC' own₂ z₂, St g s0 ex ((C, nsP mC') :: (D, plainP ys) :: (L, nsP m) :: (own₂ ++ tl)) z₂ s₄ ∧ J (i + 1) (ys ++ [y]) own₂ z₂) NoE s₃
            else ∃ mC' own₂ z₂, St g s0 ex ((C, nsP mC') :: (D, plainP ys) :: (L, nsP m) :: (own₂ ++ tl)) z₂ s₃ ∧ J (i + 1) ys own₂ z₂) NoE s₂) NoE s₁) ∧
      (∀ ys own' z' s' D, J n ys own' z' → St g s0 ex ((L, nsP fun x => if x = y then some (.ref D) else m x) :: (D, plainP ys) :: own') z' s' → Q .next s')) NoE s₁) NoE s)
    (hsw : swapsWith (.ListComp elt [⟨target, iter, ifs, 0⟩] scope pos) (some (.Name y py)) spos.line env = pure true := by rfl)
    (hL : env.locals = L := by rfl) (hk : env.scope.kind = .function := by rfl) (hl : env.kindOf y = some .local := by rfl)
    (hkind : scope.kind = .function := by rfl) (hcell : ∀ y ∈ scope.names, y.2 ≠ .cell := by decide) (hnames : ∀ y ∈ scope.names, y.2 = .local → scope.names.lookup y.1 = some .local := by decide) (hs : ∀ x, foldedSetIterable iter env x = pure x := by intro _; rfl) :
    wpAny (model prog w) A (exec (.Assign [.Name y py] (.ListComp elt [⟨target, iter, ifs, 0⟩] scope pos) spos) env) Q NoE s := by
  rw [exec_Assign_Name_used _ _ _ _ hsw]
  refine wpAny_bind (wpAny_standAt (wpAny_bind ?_))
  show wpAny _ A (do let _ ← comprehension (.ListComp elt [⟨target, iter, ifs, 0⟩] scope pos) scope env _ (newList []) false (eval iter env) (some (assign (.Name y py) env))) _ _ s
  refine wpAny_bind (wpAny_mono (wpAny_comprehension_free (use := some (assign (.Name y py) env)) (Q := fun _ s' => Q .next s') rfl hs hclos hkind hnames (wpAny_mono h (fun x s₁ h₁ => wpAny_mono h₁ (fun it s₂ h₂ => ?_) fun _ _ e => e) fun _ _ e => e)) (fun _ s' hq => wpAny_pure (wpAny_pure hq)) fun _ _ e => e)
  obtain ⟨I, n, its, H, V, own, z, J, rfl, It, hn, S₂, hJ, hlen, HL, turn, done⟩ := h₂
  refine compBlk (RR := fun acc C => compPost (model prog w) A NoE (some (assign (.Name y py) env)) (fun _ s' => Q .next s') acc C) It J hn hcell hkind S₂ hJ hlen HL turn (fun ys own' z' s' D C mC hJ S' => ?_)
  show wpAny _ A (assign (.Name y py) env (.ref D)) _ _ _
  have S'' : St g s0 ex ((L, nsP m) :: (C, nsP mC) :: (D, plainP ys) :: own') z' s' := S'.perm (by exact (List.Perm.cons _ (List.Perm.swap _ _ _)).trans (List.Perm.swap _ _ _))
  refine wpAny_assign_Name (stL (x := y) (v := .ref D) S'' (fun s₁ S₁ => ?_) hL hk hl)
  exact ⟨mC, S₁.ns (.tail _ (.head _)), fun h' hs' => done ys own' z' _ D hJ (S₁.lose (pre := [(L, nsP fun x => if x = y then some (.ref D) else m x)]) (tk := s₁.toks) fun b o hb e => hs'.extBut b o hb e)⟩

theorem sumS {own : List (Addr × (Obj → Prop))} {l : Addr} {vs : List Value} {ns : List Int} {Q : Value → Shared → Prop} (S : St g s0 ex own z s) (hh : A.handled = none) (hl : s.heap.IsList l vs.toArray) (hi : IntsAre vs ns)
    (h : ∀ n t s₁, St g s0 ex own z s₁ → Q (.int n t) s₁) : wpAny (model prog w) A (call (.builtin "sum") [.ref l]) Q NoE s := by
  obtain ⟨xs, hx⟩ := hi.allInts.items
  have hl' : s.heap.IsList l (intItems xs) := hx ▸ hl
  exact sum_intListG hh hl' fun h' tk t' hk => h _ _ _ (S.grow hk)
end
theorem St.weak {g : Heap} {s0 : Shared} {ex : List Addr} {pre post : List (Addr × (Obj → Prop))} {a : Addr} {P P' : Obj → Prop} {z : Heap} {s : Shared} (S : St g s0 ex (pre ++ (a, P) :: post) z s) (h : ∀ o, P o → P' o) : St g s0 ex (pre ++ (a, P') :: post) z s := by
  obtain ⟨o, e, q, c⟩ := S.at (List.mem_append.mpr (.inr (.head _)) : (a, P) ∈ pre ++ (a, P) :: post)
  exact S.change (h' := s.heap) (tk := s.toks) (fun _ _ _ e => e) e (h o q) c
theorem ints_snoc {n : Int} {t : Tok} : ∀ {vs : List Value} {ns : List Int}, IntsAre vs ns → IntsAre (vs ++ [.int n t]) (ns ++ [n])
  | _, _, .nil => .cons _ _ .nil
  | _, _, .cons _ _ r => .cons _ _ (ints_snoc r)
theorem ints_take : ∀ {vs : List Value} {ns : List Int}, IntsAre vs ns → ∀ k, IntsAre (vs.take k) (ns.take k)
  | _, _, .nil, k => by simpa using IntsAre.nil
  | _, _, .cons _ _ r, 0 => .nil
  | _, _, .cons _ _ r, k + 1 => .cons _ _ (ints_take r k)

section
variable {g : Heap} {s0 : Shared} {prog : Program} {w : World} {A : Around} {L a : Addr} {cd : Value} {mg mb : PySem.Str → Option Value} {f : Nat → Addr}
theorem law0 {k : Nat} {m : PySem.Str → Option Value} {z : Heap} {s : Shared} {l : Addr} {vs : List Value} {ns : List Int} (C : Cx g mg mb f) (R : Room A (k + 3)) (hab : s0.heap.objs.size ≤ L)
    (S : St g s0 [] [(L, nsP m), (L + 1, cellP none)] z s) (hm : m "script" = some (.ref l)) (hl : s0.heap.IsList l vs.toArray) (hi : IntsAre vs ns) (hns : ns.length ≤ 63)
    (HP : ∀ flo, (∀ f ∈ flo, Menu f) → ∀ lim blk dn, (∀ f k, lim f = some k → k ≠ Ky.opq) → (∀ f k, blk f = some k → k ≠ Ky.opq) → PureOk lim blk dn flo) :
    wpAny (model prog w) A (execs (bodyAt 15) (envOfC (nameAt 15) (scopeAt 15) L a cd)) (fun fl s' => fl = .ret (.bool true) ∧ KeepsX [] s0 s') NoE s := by
  have hvl : ns.length = vs.length := hi.length.symm
  refine wpAny_execs_cons ?_
  refine compU2 (g := g) (s0 := s0) (ex := []) (L := L) (m := m) (cl := []) rfl ?_
  refine subUpTo (g := g) (s0 := s0) (ex := []) ?_
  refine ldL S (.head _) hm ?_
  refine ⟨l, vs, rfl, ?_⟩
  walk_at "q"
  have S₁ := ‹St g s0 [] [(L, nsP m), (L + 1, cellP none)] z _›
  refine ⟨24, _, _, _, _, rfl, S₁, S₁.isList0 hl, by omega, fun b s₂ S₂ => ?_⟩
  refine iterLs S₂ (St.plainL S₂ (.tail _ (.head _))) fun I s₃ S₃ => ?_
  refine ⟨I, (vs.take 24).length, fun i => [(I, lsIterP b i)], fun h => h.IsList b (vs.take 24).toArray, fun i v _ => (vs.take 24)[i]? = some v, [(b, plainP (vs.take 24)), (L + 1, cellP none)], z,
    fun i ys own' z' => own' = [(b, plainP (vs.take 24)), (L + 1, cellP none)] ∧ z' = z ∧ ys.length ≤ i ∧ ∃ ns', IntsAre ys ns', rfl, itrLs R.handled I b _ _ (.inl fun _ => rfl), by rw [List.length_take]; omega, S₃, ⟨rfl, rfl, Nat.le_refl _, [], .nil⟩, fun _ _ _ _ h => h.2.2.1, ?_, ?_, ?_⟩
  · rintro i ys own' z' s' ⟨rfl, rfl, _⟩ D C' mC tl S'
    exact St.plainL S' (.tail _ (.tail _ (.tail _ (.head _))))
  · rintro i v ys own' z' s' tl C' D mC hilt ⟨rfl, rfl, hle, ns', hns'⟩ hv S'
    obtain ⟨n, t, _, rfl⟩ := ints_at (ints_take hi 24) hv
    iterate 2 walk_at "q"
    refine ifs0 ?_
    simp only [if_true]
    refine callT1 ‹_› C.N C.B.nint C.B.bint ?_
    walk_at "qs"
    have S₆ := ‹St g s0 [] ((C', nsP fun y => if y = "cell" then _ else _) :: _) _ _›
    exact call_int_int ⟨_, _, _, S₆, rfl, rfl, by rw [List.length_append, List.length_singleton]; omega, _, ints_snoc hns'⟩
  · rintro ys own' z' s' D ⟨rfl, rfl, hle, ns', hns'⟩ S'
    have hyl : ns'.length ≤ 63 := by
      have h1 := hns'.length
      rw [List.length_take] at hle
      omega
    have S₄ : St g s0 [] [(L, nsP fun x => if x = "script" then some (.ref D) else m x), (b, plainP (vs.take 24)), (L + 1, cellP none), (D, plainP ys)] _ _ :=
      S'.perm (List.Perm.cons _ ((List.Perm.swap _ _ _).trans (List.Perm.cons _ (List.Perm.swap _ _ _))))
    have S₅ := S₄.drop2
    clear S' S₄
    refine wpAny_execs_cons (wpAny_Assign_Name ?_)
    walk_at "q"
    walk_at "q"
    walk_at "q"
    refine callB1 S₅ C.N C.B.nsum C.B.bsum ?_
    walk_at "qs"
    refine sumS S₅ R.handled (St.plainL S₅ (.tail _ (.tail _ (.head _)))) hns' fun n t s₆ S₆ => ?_
    walk_at "qs"
    rename_i P s₇ S₇
    have S₈ : St g s0 [] [(L, nsP fun x => if x = "script" then some (.ref D) else m x), (L + 1, cellP none), (P, plainP _), (D, plainP ys)] _ _ := S₇.perm (List.Perm.cons _ (List.Perm.swap _ _ _))
    refine stC (c := L + 1) S₈ fun s₉ S₉ => ?_
    have hne : D ≠ P := by
      have hnd := S₉.nd
      rintro rfl
      simp at hnd
    have hp0 : 0 ≤ n.fmod 2147483647 := by rw [Int.fmod_eq_emod_of_nonneg n (by decide)]; exact Int.emod_nonneg _ (by decide)
    have hp1 : n.fmod 2147483647 < 2147483647 := by rw [Int.fmod_eq_emod_of_nonneg n (by decide)]; exact Int.emod_lt_of_pos _ (by decide)
    have S₁₀ : St g s0 [] ([(L, nsP fun x => if x = "script" then some (.ref D) else m x)] ++ (P, plainP _) :: [(L + 1, cellP (some (.ref P))), (D, plainP ys)]) _ _ := S₉.perm (List.Perm.cons _ (List.Perm.swap _ _ _))
    have S₁₁ := S₁₀.weak (P' := poolP D) fun o ho => ⟨_, _, _, _, plainP_list ho, hp0, hp1, by decide⟩
    exact law2 C R hab S₁₁ hne hns' hyl HP
end

/-! the plain law of the lost frames -/
theorem same_way {x : PySem.Str} (h : sameL2.contains x = true) : wayOf x = "same" := by
  rw [List.contains_iff_mem] at h
  simp only [sameL2, List.mem_cons, List.not_mem_nil, or_false] at h
  rcases h with rfl | rfl | rfl | rfl | rfl | rfl <;> decide +kernel
theorem lat_way {x : PySem.Str} (h : latL.contains x = true) : wayOf x = "latest" := by
  rw [List.contains_iff_mem] at h
  simp only [latL, List.mem_cons, List.not_mem_nil, or_false] at h
  rcases h with rfl | rfl | rfl <;> decide +kernel
theorem blk_way {x : PySem.Str} (h : blkL.contains x = true) : wayOf x = "blocked" := by
  rw [List.contains_iff_mem] at h
  simp only [blkL, List.mem_cons, List.not_mem_nil, or_false] at h
  rcases h with rfl | rfl | rfl <;> decide +kernel
theorem anew_same {x : PySem.Str} (h : anewL.contains x = true) : sameL2.contains x = true := by
  rw [List.contains_iff_mem] at h
  simp only [anewL, List.mem_cons, List.not_mem_nil, or_false] at h
  rcases h with rfl | rfl | rfl | rfl | rfl | rfl <;> decide +kernel
/-- the way that a kind goes, by the law's own tables -/
theorem way_cases (x : PySem.Str) : (sameL2.contains x = true ∧ wayOf x = "same") ∨ (sameL2.contains x = false ∧ latL.contains x = true ∧ wayOf x = "latest") ∨ (sameL2.contains x = false ∧ latL.contains x = false ∧ blkL.contains x = true ∧ wayOf x = "blocked") ∨
    (sameL2.contains x = false ∧ latL.contains x = false ∧ blkL.contains x = false ∧ (wayOf x = "holder" ∨ wayOf x = "never")) := by
  cases h1 : sameL2.contains x with
  | true => exact .inl ⟨rfl, same_way h1⟩
  | false =>
    cases h2 : latL.contains x with
    | true => exact .inr (.inl ⟨rfl, rfl, lat_way h2⟩)
    | false =>
      cases h3 : blkL.contains x with
      | true => exact .inr (.inr (.inl ⟨rfl, rfl, rfl, blk_way h3⟩))
      | false =>
        refine .inr (.inr (.inr ⟨rfl, rfl, rfl, ?_⟩))
        unfold wayOf
        have h0 : anewL.contains x = false := by
          cases h : anewL.contains x with
          | false => rfl
          | true => rw [anew_same h] at h1; cases h1
        rw [h0, h2, h3]
        cases holdL.contains x
        · exact .inr rfl
        · exact .inl rfl

/-- what holds of each lost frame by itself -/
structure MOk (f : Fm) : Prop where
  short : f.length ≤ 100
  sub : Sub f
  abt : ffil f = true → Abt f
  hold : holdL.contains (kindF f) = true → Ky.opq ∉ f
  long : latL.contains (kindF f) = true ∨ blkL.contains (kindF f) = true → Long f
  nop : latL.contains (kindF f) = true ∨ blkL.contains (kindF f) = true → Ky.opq ∉ f
  same : sameL2.contains (kindF f) = true → ffil f = true ∧ subjOf f = abtOf f ∧ Due f
  lim : latL.contains (kindF f) = true ∨ blkL.contains (kindF f) = true → ffil f = true ∧ subjOf f = abtOf f ∧ ∀ k, k ≠ Ky.opq → Due (f.dropLast ++ [k]) ∧ subjOf (f.dropLast ++ [k]) = abtOf f

theorem subj2 (x : PySem.Str) (a : Ky) (r : Fm) : subjOf (.str x :: a :: r) = [.str x, if pairs x then a else .none] := rfl
theorem abt2 (x : PySem.Str) (a : Ky) (r : Fm) : abtOf (.str x :: a :: r) = [.str x, if lonL.contains x then .none else a] := rfl
theorem sub2 {x : PySem.Str} {a : Ky} {r : Fm} (ha : a ≠ Ky.opq) : Sub (.str x :: a :: r) := by
  refine ⟨⟨x, _, rfl⟩, fun _ => by simp, ?_⟩
  rw [subj2]
  simp only [List.mem_cons, List.not_mem_nil, or_false, not_or]
  refine ⟨(fun e => by cases e), ?_⟩
  split
  · exact ha.symm
  · exact fun e => by cases e
theorem abtOk2 {x : PySem.Str} {a : Ky} {r : Fm} (ha : a ≠ Ky.opq) : Abt (.str x :: a :: r) := by
  refine ⟨⟨x, _, rfl⟩, fun _ => by simp, ?_⟩
  rw [abt2]
  simp only [List.mem_cons, List.not_mem_nil, or_false, not_or]
  refine ⟨(fun e => by cases e), ?_⟩
  split
  · exact fun e => by cases e
  · exact ha.symm
theorem agree2 {x : PySem.Str} {a : Ky} {r : Fm} (h : pairs x = !lonL.contains x) : subjOf (.str x :: a :: r) = abtOf (.str x :: a :: r) := by
  rw [subj2, abt2, h]
  cases lonL.contains x <;> rfl
theorem due2 {x : PySem.Str} {a : Ky} {r : Fm} (ha : a ≠ Ky.opq) (hr : Ky.opq ∉ r) (h : pairs x = !lonL.contains x) (hw : sameL2.contains x = true ∨ latL.contains x = true ∨ blkL.contains x = true) : Due (.str x :: a :: r) := by
  refine ⟨sub2 ha, abtOk2 ha, agree2 h, ?_, ?_⟩
  · show (["same", "latest", "blocked"] : List PySem.Str).contains (wayOf x) = true
    rcases hw with h | h | h
    · rw [same_way h]; decide +kernel
    · rw [lat_way h]; decide +kernel
    · rw [blk_way h]; decide +kernel
  · simp only [List.mem_cons, not_or]
    exact ⟨(fun e => by cases e), ha.symm, hr⟩
theorem mok2 {x : PySem.Str} {a : Ky} {r : Fm} (hlen : r.length ≤ 10) (ha : a ≠ Ky.opq) (hr : Ky.opq ∉ r ∨ (sameL2.contains x || latL.contains x || blkL.contains x || holdL.contains x) = false)
    (hag : (sameL2.contains x || latL.contains x || blkL.contains x) = true → pairs x = !lonL.contains x)
    (hlim : (latL.contains x || blkL.contains x) = true → (r = [] ∧ lonL.contains x = true) ∨ ∃ b, r = [b] ∧ lonL.contains x = false) : MOk (.str x :: a :: r) := by
  have hff : ffil (.str x :: a :: r) = true := by
    unfold ffil
    rw [decide_eq_true (by simp)]; rfl
  have hor : latL.contains x = true ∨ blkL.contains x = true → (latL.contains x || blkL.contains x) = true := fun h => by rw [Bool.or_eq_true]; exact h
  refine ⟨by simp; omega, sub2 ha, fun _ => abtOk2 ha, ?_, ?_, ?_, ?_, ?_⟩
  · intro h
    have h : holdL.contains x = true := h
    rcases hr with hr | hr
    · simp only [List.mem_cons, not_or]
      exact ⟨(fun e => by cases e), ha.symm, hr⟩
    · rw [h, Bool.or_true] at hr; cases hr
  · intro h
    have h := hor h
    rcases hlim h with ⟨rfl, _⟩ | ⟨b, rfl, _⟩ <;> exact ⟨by simp, by simp⟩
  · intro h
    have h : latL.contains x = true ∨ blkL.contains x = true := h
    rcases hr with hr | hr
    · simp only [List.mem_cons, not_or]
      exact ⟨(fun e => by cases e), ha.symm, hr⟩
    · rcases h with h | h <;> rw [h] at hr <;> simp at hr
  · intro h
    have h : sameL2.contains x = true := h
    have h2 : (sameL2.contains x || latL.contains x || blkL.contains x) = true := by rw [h]; rfl
    refine ⟨hff, agree2 (hag h2), due2 ha ?_ (hag h2) (.inl h)⟩
    rcases hr with hr | hr
    · exact hr
    · rw [h] at hr; simp at hr
  · intro h
    have h : latL.contains x = true ∨ blkL.contains x = true := h
    have h1 := hor h
    have h2 : (sameL2.contains x || latL.contains x || blkL.contains x) = true := by
      rw [Bool.or_assoc, h1, Bool.or_true]
    refine ⟨hff, agree2 (hag h2), fun k hk => ?_⟩
    rcases hlim h1 with ⟨rfl, hl⟩ | ⟨b, rfl, hl⟩
    · refine ⟨due2 (r := []) hk (by simp) (hag h2) (.inr h), ?_⟩
      show subjOf [.str x, k] = abtOf [.str x, a]
      rw [subj2, abt2, hag h2, hl]
      rfl
    · refine ⟨due2 (r := [k]) ha (by simpa using hk.symm) (hag h2) (.inr h), ?_⟩
      show subjOf [.str x, a, k] = abtOf [.str x, a, b]
      rw [subj2, abt2, hag h2, hl]
      rfl
theorem mok_ping : MOk [.str "ping"] := by
  have h1 : holdL.contains ("ping" : PySem.Str) = false := by decide +kernel
  have h2 : latL.contains ("ping" : PySem.Str) = false := by decide +kernel
  have h3 : blkL.contains ("ping" : PySem.Str) = false := by decide +kernel
  have h4 : sameL2.contains ("ping" : PySem.Str) = false := by decide +kernel
  have h5 : pairs ("ping" : PySem.Str) = false := by decide +kernel
  have h6 : ffil [.str "ping"] = false := by decide +kernel
  refine ⟨by simp, ⟨⟨_, _, rfl⟩, fun h => absurd (h5.symm.trans h) Bool.noConfusion, by decide +kernel⟩, fun h => absurd (h6.symm.trans h) Bool.noConfusion, fun h => absurd (h1.symm.trans h) Bool.noConfusion, ?_, ?_, fun h => absurd (h4.symm.trans h) Bool.noConfusion, ?_⟩
  · rintro (h | h)
    · exact absurd (h2.symm.trans h) Bool.noConfusion
    · exact absurd (h3.symm.trans h) Bool.noConfusion
  · rintro (h | h)
    · exact absurd (h2.symm.trans h) Bool.noConfusion
    · exact absurd (h3.symm.trans h) Bool.noConfusion
  · rintro (h | h)
    · exact absurd (h2.symm.trans h) Bool.noConfusion
    · exact absurd (h3.symm.trans h) Bool.noConfusion
theorem mok_done : MOk [.str "handshake_done"] := by
  have h1 : holdL.contains ("handshake_done" : PySem.Str) = false := by decide +kernel
  have h2 : latL.contains ("handshake_done" : PySem.Str) = false := by decide +kernel
  have h3 : blkL.contains ("handshake_done" : PySem.Str) = false := by decide +kernel
  have h5 : pairs ("handshake_done" : PySem.Str) = false := by decide +kernel
  have h6 : lonL.contains ("handshake_done" : PySem.Str) = true := by decide +kernel
  have hs : Sub [.str "handshake_done"] := ⟨⟨_, _, rfl⟩, fun h => absurd (h5.symm.trans h) Bool.noConfusion, by decide +kernel⟩
  have ha : Abt [.str "handshake_done"] := ⟨⟨_, _, rfl⟩, fun h => absurd (h6.symm.trans h) Bool.noConfusion, by decide +kernel⟩
  refine ⟨by simp, hs, fun _ => ha, fun h => absurd (h1.symm.trans h) Bool.noConfusion, ?_, ?_, fun _ => ⟨by decide +kernel, by decide +kernel, hs, ha, by decide +kernel, by decide +kernel, by decide +kernel⟩, ?_⟩
  · rintro (h | h)
    · exact absurd (h2.symm.trans h) Bool.noConfusion
    · exact absurd (h3.symm.trans h) Bool.noConfusion
  · rintro (h | h)
    · exact absurd (h2.symm.trans h) Bool.noConfusion
    · exact absurd (h3.symm.trans h) Bool.noConfusion
  · rintro (h | h)
    · exact absurd (h2.symm.trans h) Bool.noConfusion
    · exact absurd (h3.symm.trans h) Bool.noConfusion
theorem menu_ok {f : Fm} (h : Menu f) : MOk f := by
  rcases h with ⟨x, y, h0, h3, h⟩ | rfl
  · unfold menuF at h
    simp only [List.mem_cons, List.mem_append, List.not_mem_nil, or_false] at h
    rcases h with rfl | rfl | rfl | rfl | rfl | rfl | rfl | rfl | rfl | rfl | rfl | rfl | rfl | rfl | rfl | rfl | rfl | rfl | rfl | rfl
    · exact mok2 (by simp) (fun e => by cases e) (.inl (by simp)) (fun h => absurd h (by decide +kernel)) (fun h => absurd h (by decide +kernel))
    · exact mok_ping
    · exact mok2 (by simp) (fun e => by cases e) (.inr (by decide +kernel)) (fun h => absurd h (by decide +kernel)) (fun h => absurd h (by decide +kernel))
    · exact mok2 (by simp) (fun e => by cases e) (.inl (by simp)) (fun _ => by decide +kernel) (fun h => absurd h (by decide +kernel))
    · exact mok2 (by simp) (fun e => by cases e) (.inl (by simp)) (fun _ => by decide +kernel) (fun h => absurd h (by decide +kernel))
    · exact mok2 (by simp) (fun e => by cases e) (.inl (by simp)) (fun h => absurd h (by decide +kernel)) (fun h => absurd h (by decide +kernel))
    · exact mok2 (by simp) (fun e => by cases e) (.inl (by simp)) (fun _ => by decide +kernel) (fun h => absurd h (by decide +kernel))
    · exact mok2 (by simp) (fun e => by cases e) (.inl (by simp)) (fun h => absurd h (by decide +kernel)) (fun h => absurd h (by decide +kernel))
    · exact mok2 (by simp) (fun e => by cases e) (.inl (by simp)) (fun _ => by decide +kernel) (fun _ => .inl ⟨rfl, by decide +kernel⟩)
    · exact mok2 (by simp) (fun e => by cases e) (.inl (by simp)) (fun _ => by decide +kernel) (fun _ => .inr ⟨_, rfl, by decide +kernel⟩)
    · exact mok2 (by simp) (fun e => by cases e) (.inl (by simp)) (fun _ => by decide +kernel) (fun _ => .inr ⟨_, rfl, by decide +kernel⟩)
    · exact mok2 (by simp) (fun e => by cases e) (.inl (by simp)) (fun _ => by decide +kernel) (fun _ => .inl ⟨rfl, by decide +kernel⟩)
    · exact mok2 (by simp) (fun e => by cases e) (.inl (by simp)) (fun _ => by decide +kernel) (fun _ => .inr ⟨_, rfl, by decide +kernel⟩)
    · exact mok2 (by simp) (fun e => by cases e) (.inl (by simp)) (fun _ => by decide +kernel) (fun _ => .inr ⟨_, rfl, by decide +kernel⟩)
    · exact mok2 (by simp) (fun e => by cases e) (.inl (by simp)) (fun _ => by decide +kernel) (fun h => absurd h (by decide +kernel))
    · exact mok2 (by simp) (fun e => by cases e) (.inl (by simp)) (fun _ => by decide +kernel) (fun h => absurd h (by decide +kernel))
    · exact mok2 (by simp) (fun e => by cases e) (.inl (by simp)) (fun h => absurd h (by decide +kernel)) (fun h => absurd h (by decide +kernel))
    · exact mok2 (by simp) (fun e => by cases e) (.inl (by simp)) (fun h => absurd h (by decide +kernel)) (fun h => absurd h (by decide +kernel))
    · exact mok2 (by simp) (fun e => by cases e) (.inl (by simp)) (fun h => absurd h (by decide +kernel)) (fun h => absurd h (by decide +kernel))
    · exact mok_done
  · exact mok2 (by decide) (fun e => by cases e) (.inl (by simp)) (fun h => absurd h (by decide +kernel)) (fun h => absurd h (by decide +kernel))

/-- the two tables agree, frame by frame -/
theorem told_due {lim blk : Fm → Option Ky} {dn : Fm → Bool} {f : Fm} (M : MOk f) : told lim blk dn f = if ffil f = true then (dueOne lim blk dn f).map (·.2) else none := by
  have hw : wayF f = wayOf (kindF f) := rfl
  unfold told dueOne
  rcases way_cases (kindF f) with ⟨h1, e⟩ | ⟨h1, h2, e⟩ | ⟨h1, h2, h3, e⟩ | ⟨h1, h2, h3, e⟩
  · obtain ⟨m1, m2, _⟩ := M.same h1
    rw [hw, e, m1, m2, h1]
    cases dn (abtOf f)
    · rw [if_neg Bool.false_ne_true, if_neg (by decide +kernel), if_neg (by decide +kernel), if_pos (by decide +kernel), if_pos rfl, if_neg Bool.false_ne_true, if_pos rfl]; rfl
    · rfl
  · obtain ⟨m1, m2, _⟩ := M.lim (.inl h2)
    rw [hw, e, m1, m2, h1, h2]
    cases dn (abtOf f)
    · rw [if_neg Bool.false_ne_true, if_neg (by decide +kernel), if_neg (by decide +kernel), if_neg (by decide +kernel), if_pos (by decide +kernel), if_pos rfl, if_neg Bool.false_ne_true, if_neg Bool.false_ne_true, if_pos rfl]; rfl
    · rfl
  · obtain ⟨m1, m2, _⟩ := M.lim (.inr h3)
    rw [hw, e, m1, m2, h1, h2, h3]
    cases dn (abtOf f)
    · rw [if_neg Bool.false_ne_true, if_neg (by decide +kernel), if_neg (by decide +kernel), if_neg (by decide +kernel), if_neg (by decide +kernel), if_pos rfl, if_neg Bool.false_ne_true, if_neg Bool.false_ne_true, if_neg Bool.false_ne_true, if_pos rfl]
      cases blk (abtOf f) <;> rfl
    · rfl
  · have hl : (if ffil f = true then (none : Option Fm) else none) = none := by split <;> rfl
    have hr : ((if dn (abtOf f) = true then none else if sameL2.contains (kindF f) = true then some (abtOf f, f) else if latL.contains (kindF f) = true then some (abtOf f, f.dropLast ++ [(lim (abtOf f)).getD (lastK f)])
        else if blkL.contains (kindF f) = true then (blk (abtOf f)).map fun k => (abtOf f, f.dropLast ++ [k]) else none : Option (Fm × Fm)).map (·.2)) = none := by
      rw [h1, h2, h3]
      cases dn (abtOf f) <;> rfl
    rw [hr, hl]
    cases dn (subjOf f) with
    | true => rfl
    | false =>
      rw [if_neg Bool.false_ne_true]
      rcases e with e | e
      · rw [hw, e, if_pos (by decide +kernel)]
      · rw [hw, e, if_neg (by decide +kernel), if_pos (by decide +kernel)]

theorem lastK_ne {f : Fm} (h : Ky.opq ∉ f) : lastK f ≠ Ky.opq := by
  unfold lastK
  intro e
  cases f with
  | nil => cases e
  | cons a r =>
    rw [List.getLastD_eq_getLast?, List.getLast?_eq_some_getLast (by simp)] at e
    exact h (e ▸ List.getLast_mem _)

theorem due_pair {lim blk : Fm → Option Ky} {dn : Fm → Bool} {f : Fm} {p : Fm × Fm} (M : MOk f) (hl : ∀ f k, lim f = some k → k ≠ Ky.opq) (hb : ∀ f k, blk f = some k → k ≠ Ky.opq) (h : dueOne lim blk dn f = some p) : Due p.2 ∧ subjOf p.2 = p.1 := by
  unfold dueOne at h
  split at h
  · cases h
  split at h
  · rename_i h1
    cases h
    obtain ⟨_, m2, m3⟩ := M.same h1
    exact ⟨m3, m2⟩
  split at h
  · rename_i h2
    cases h
    obtain ⟨_, _, m3⟩ := M.lim (.inl h2)
    refine m3 _ ?_
    cases e : lim (abtOf f) with
    | none => exact lastK_ne (M.nop (.inl h2))
    | some k => exact hl _ _ e
  split at h
  · rename_i h3
    obtain ⟨k, hk, rfl⟩ := Option.map_eq_some_iff.mp h
    obtain ⟨_, _, m3⟩ := M.lim (.inr h3)
    exact m3 k (hb _ _ hk)
  · cases h

theorem pure_ok {flo : List Fm} (hm : ∀ f ∈ flo, Menu f) {lim blk : Fm → Option Ky} {dn : Fm → Bool} (hl : ∀ f k, lim f = some k → k ≠ Ky.opq) (hb : ∀ f k, blk f = some k → k ≠ Ky.opq) : PureOk lim blk dn flo := by
  have hM : ∀ f ∈ flo, MOk f := fun f hf => menu_ok (hm f hf)
  have hprs : ∀ p ∈ (flo.filter ffil).filterMap (dueOne lim blk dn), Due p.2 ∧ subjOf p.2 = p.1 := by
    intro p hp
    obtain ⟨f, hf, e⟩ := List.mem_filterMap.mp hp
    exact due_pair (hM f (List.mem_filter.mp hf).1) hl hb e
  have htold : flo.filterMap (told lim blk dn) = ((flo.filter ffil).filterMap (dueOne lim blk dn)).map (·.2) := by
    clear hprs hm
    induction flo with
    | nil => rfl
    | cons f r ih =>
      have ih := ih fun g hg => hM g (.tail _ hg)
      rw [List.filterMap_cons, told_due (hM f (.head _)), List.filter_cons]
      cases hf : ffil f with
      | false => exact ih
      | true =>
        rw [if_pos rfl, if_pos rfl, List.filterMap_cons]
        cases dueOne lim blk dn f with
        | none => exact ih
        | some p => exact congrArg (p.2 :: ·) ih
  have heq : lasts subjOf (flo.filterMap (told lim blk dn)) = dueF lim blk dn flo := by
    unfold dueF
    rw [htold, lasts_map]
    congr 1
    exact lasts_congr fun p hp => (hprs p hp).2
  have hdue : ∀ f ∈ dueF lim blk dn flo, Due f := by
    intro f hf
    unfold dueF at hf
    obtain ⟨p, hp, rfl⟩ := List.mem_map.mp hf
    exact (hprs p (lasts_sub hp)).1
  have hnd : ((dueF lim blk dn flo).map subjOf).Nodup := by
    unfold dueF
    rw [List.map_map, show (lasts (·.1) ((flo.filter ffil).filterMap (dueOne lim blk dn))).map (subjOf ∘ fun x => x.2) = (lasts (·.1) ((flo.filter ffil).filterMap (dueOne lim blk dn))).map (·.1) from List.map_congr_left fun p hp => (hprs p (lasts_sub hp)).2]
    exact lasts_nodup
  have hone := lasts_id (φ := subjOf) hnd
  refine ⟨fun f hf => (hM f hf).short, fun f hf => (hM f hf).sub, fun f hf => (hM f hf).abt, ?_, fun f hf => (hM f hf).long, ?_, fun f hf => (hM f hf).hold, hdue, heq, hone, ?_⟩
  · intro f hf h
    refine (hM f hf).long ?_
    have hw : wayF f = wayOf (kindF f) := rfl
    rw [hw] at h
    rcases way_cases (kindF f) with ⟨h1, e⟩ | ⟨h1, h2, e⟩ | ⟨h1, h2, h3, e⟩ | ⟨h1, h2, h3, e⟩
    · rw [e] at h; exact absurd h (by decide +kernel)
    · exact .inl h2
    · exact .inr h3
    · rcases e with e | e <;> rw [e] at h <;> exact absurd h (by decide +kernel)
  · intro f hf n hn
    rw [told_due (hM f hf)] at hn
    split at hn
    · obtain ⟨p, hp, rfl⟩ := Option.map_eq_some_iff.mp hn
      exact (due_pair (hM f hf) hl hb hp).1.1
    · cases hn
  · rw [lasts_twice fun x hx => List.mem_map.mpr ⟨x, hx, rfl⟩]
    exact hone


/-! the top's facts -/
section
variable {p : Program} {loose : List PySem.Str} {mean : ExcName → Option Value} {mg mb : PySem.Str → Option Value} {h₀ : Heap} {w : World}
def RecIn (p : Program) (n : Nat) : Prop := ∃ d ∈ recsOf p, d.name = nameAt n ∧ d.params = argsAt n ∧ d.body = bodyAt n ∧ d.scope = scopeAt n
def Unbound (p : Program) (loose : List PySem.Str) (x : PySem.Str) : Prop := x ∉ startupNames ∧ x ∉ loose ∧ x ∉ (recsOf p).map (·.name) ∧ x ∉ (litsOf p).map (·.1) ∧ x ∉ (clssOf p loose).map (·.name)
structure TopIs (p : Program) (loose : List PySem.Str) : Prop where
  r5 : RecIn p 5
  r6 : RecIn p 6
  r7 : RecIn p 7
  r8 : RecIn p 8
  r9 : RecIn p 9
  r11 : RecIn p 11
  r12 : RecIn p 12
  r13 : RecIn p 13
  r14 : RecIn p 14
  t1 : tupStrsOf p "ANEW" = some anewL
  t2 : tupStrsOf p "BY_HOLDER" = some holdL
  t3 : tupStrsOf p "LATEST" = some latL
  t4 : tupStrsOf p "WHILE_BLOCKED" = some blkL
  u1 : Unbound p loose "len"
  u2 : Unbound p loose "abs"
  u3 : Unbound p loose "bytes"
  u4 : Unbound p loose "int"
  u5 : Unbound p loose "sum"
  u6 : Unbound p loose "range"
  u7 : Unbound p loose "enumerate"
  u8 : Unbound p loose "sorted"
  u9 : Unbound p loose "list"
  u10 : Unbound p loose "tuple"
theorem rec_fn (T : Top p loose mean mg mb h₀) {n : Nat} (h : RecIn p n) : ∃ a, FnN h₀ a n ∧ mg (nameAt n) = some (.ref a) := by
  obtain ⟨d, hd, e1, e2, e3, e4⟩ := h
  obtain ⟨a, o, pm, code, doc, h1, h2, h3, h4⟩ := T.fn d hd
  rw [e1] at h1
  rw [e1, e2, e3, e4] at h3
  rw [e1] at h4
  exact ⟨a, ⟨o, pm, code, doc, h2, h3, h4⟩, h1⟩
theorem unb (T : Top p loose mean mg mb h₀) {x : PySem.Str} (h : Unbound p loose x) : mg x = none := T.free x h.1 h.2.1 h.2.2.1 h.2.2.2.1 h.2.2.2.2
theorem topCx (T : Top p loose mean mg mb h₀) (B : Tables p w mg h₀) (I : TopIs p loose) : ∃ f, Cx h₀ mg mb f := by
  obtain ⟨a5, f5, m5⟩ := rec_fn T I.r5
  obtain ⟨a6, f6, m6⟩ := rec_fn T I.r6
  obtain ⟨a7, f7, m7⟩ := rec_fn T I.r7
  obtain ⟨a8, f8, m8⟩ := rec_fn T I.r8
  obtain ⟨a9, f9, m9⟩ := rec_fn T I.r9
  obtain ⟨a11, f11, m11⟩ := rec_fn T I.r11
  obtain ⟨a12, f12, m12⟩ := rec_fn T I.r12
  obtain ⟨a13, f13, m13⟩ := rec_fn T I.r13
  obtain ⟨a14, f14, m14⟩ := rec_fn T I.r14
  have hb : ∀ x v, x ≠ ("__name__" : PySem.Str) → bootBuiltins x = some v → mb x = some v := fun x v hx hv => (T.builtins x hx).trans hv
  refine ⟨fun n => match n with | 5 => a5 | 6 => a6 | 7 => a7 | 8 => a8 | 9 => a9 | 11 => a11 | 12 => a12 | 13 => a13 | _ => a14, ⟨T.g, T.b, T.nolimit⟩, ?_, ⟨B.tupS _ _ I.t1, B.tupS _ _ I.t2, B.tupS _ _ I.t3, B.tupS _ _ I.t4⟩,
    f5, f6, f7, f8, f9, f11, f12, f13, f14, m5, m6, m7, m8, m9, m11, m12, m13, m14⟩
  exact ⟨unb T I.u1, hb _ _ (by decide +kernel) (by rfl), unb T I.u2, hb _ _ (by decide +kernel) (by rfl), unb T I.u3, hb _ _ (by decide +kernel) (by rfl), unb T I.u4, hb _ _ (by decide +kernel) (by rfl), unb T I.u5, hb _ _ (by decide +kernel) (by rfl),
    unb T I.u6, hb _ _ (by decide +kernel) (by rfl), unb T I.u7, hb _ _ (by decide +kernel) (by rfl), unb T I.u8, hb _ _ (by decide +kernel) (by rfl), unb T I.u9, hb _ _ (by decide +kernel) (by rfl), unb T I.u10, hb _ _ (by decide +kernel) (by rfl)⟩

/-- the law's run, from the library's head -/
theorem law_top {prog : Program} {A : Around} {k : Nat} {L l : Addr} {h₁ : Heap} {tk : Nat} {m : PySem.Str → Option Value} {o : Obj} {vs : List Value} {ns : List Int} {s₁ : Shared} {a : Addr} {cd : Value} (T : Top p loose mean mg mb s₁.heap) (B : Tables p w mg s₁.heap) (I : TopIs p loose) (R : Room A (k + 3))
    (F : Fr s₁.heap L h₁ m) (N : News s₁.heap L h₁ [(L + 1, o)]) (hc : o.data = .cell none) (hm : m "script" = some (.ref l)) (hl : s₁.heap.IsList l vs.toArray) (hi : IntsAre vs ns) (hns : ¬ ((63 : Nat) : Int) < ns.length) :
    wpAny (model prog w) A (execs (bodyAt 15) (envOfC (nameAt 15) (scopeAt 15) L a cd)) (fun fl s' => fl = .ret (.bool true) ∧ KeepsX [] s₁ s') NoE { s₁ with heap := h₁, toks := tk } := by
  obtain ⟨f, C⟩ := topCx T B I
  obtain ⟨oL, eL, qL⟩ := nsOf F.ns
  obtain ⟨n1, n2, n3⟩ := N _ (.head _)
  have S : St s₁.heap s₁ [] [(L, nsP m), (L + 1, cellP none)] s₁.heap { s₁ with heap := h₁, toks := tk } := by
    refine ⟨⟨_, _, rfl⟩, fun b o e => ⟨e, by simp⟩, fun b o _ e => F.keep b o e, ?_, by simp, fun b o e _ => F.keep b o e⟩
    intro q hq
    rcases List.mem_cons.mp hq with rfl | hq
    · refine ⟨⟨oL, eL, qL, nsP_tp qL⟩, .inr ?_⟩
      cases e : s₁.heap.get? L with
      | none => rfl
      | some o' => exact absurd (Heap.lt_size e) (Nat.not_lt.mpr F.above)
    · rw [List.mem_singleton.mp hq]
      exact ⟨⟨o, n1, hc, cellP_tp (v := none) hc⟩, .inr n3⟩
  exact law0 C R F.above S hm hl hi (by omega) fun flo hf lim blk dn hlim hblk => pure_ok hf hlim hblk
end

end Tq

/-! the join: the library's head, then the law's own walk -/
open_top hd for PySem.Challenge.rw_no0049_01
namespace Tq
set_option maxRecDepth 100000 in
theorem hdIs : TopIs hd.view_39 (looseW hd.view_39 []) := by
  refine ⟨⟨_, List.mem_of_find?_eq_some (show (recsOf hd.view_39).find? (fun e => e.name == nameAt 5) = some _ from by rfl), rfl, rfl, rfl, rfl⟩,
    ⟨_, List.mem_of_find?_eq_some (show (recsOf hd.view_39).find? (fun e => e.name == nameAt 6) = some _ from by rfl), rfl, rfl, rfl, rfl⟩,
    ⟨_, List.mem_of_find?_eq_some (show (recsOf hd.view_39).find? (fun e => e.name == nameAt 7) = some _ from by rfl), rfl, rfl, rfl, rfl⟩,
    ⟨_, List.mem_of_find?_eq_some (show (recsOf hd.view_39).find? (fun e => e.name == nameAt 8) = some _ from by rfl), rfl, rfl, rfl, rfl⟩,
    ⟨_, List.mem_of_find?_eq_some (show (recsOf hd.view_39).find? (fun e => e.name == nameAt 9) = some _ from by rfl), rfl, rfl, rfl, rfl⟩,
    ⟨_, List.mem_of_find?_eq_some (show (recsOf hd.view_39).find? (fun e => e.name == nameAt 11) = some _ from by rfl), rfl, rfl, rfl, rfl⟩,
    ⟨_, List.mem_of_find?_eq_some (show (recsOf hd.view_39).find? (fun e => e.name == nameAt 12) = some _ from by rfl), rfl, rfl, rfl, rfl⟩,
    ⟨_, List.mem_of_find?_eq_some (show (recsOf hd.view_39).find? (fun e => e.name == nameAt 13) = some _ from by rfl), rfl, rfl, rfl, rfl⟩,
    ⟨_, List.mem_of_find?_eq_some (show (recsOf hd.view_39).find? (fun e => e.name == nameAt 14) = some _ from by rfl), rfl, rfl, rfl, rfl⟩,
    by rfl, by rfl, by rfl, by rfl, ?_, ?_, ?_, ?_, ?_, ?_, ?_, ?_, ?_, ?_⟩ <;> exact ⟨by decide +kernel, by decide +kernel, by decide +kernel, by decide +kernel, by decide +kernel⟩
end Tq
set_option maxRecDepth 100000 in
set_option maxHeartbeats 8000000 in
theorem PySem.Challenge.cw_no0049_01_holds : PySem.Challenge.rw_no0049_01.Holds :=
  hd (by
  k_go0
  rename Top _ _ _ _ _ _ => T0
  rename Tables _ _ _ _ => B0
  rename Fr _ _ _ _ => F0
  rename News _ _ _ _ => N0
  rename Heap.IsList _ _ _ => hL0
  rename IntsAre _ _ => hI0
  refine wpAny_mono (Tq.law_top (k := 3) T0 B0 Tq.hdIs ?R F0 N0 ?hc ?hm hL0 hI0 ?hn) (fun fl s' h => ?_) fun _ _ e => e.elim
  case R => exact ⟨rfl, (show callerA.depth + 1 + 6 < recursionLimit by decide), (show callerA.units + 3 + 4 * 6 + 20 < cLine by decide)⟩
  case hm => rfl
  case hc => refine Eq.trans (by assumption) ?_; rfl
  case hn => assumption
  obtain ⟨rfl, ⟨h2, tk2, rfl⟩, hk⟩ := h
  refine ⟨.inl ⟨.bool true, .bool true, [], rfl, raisesW_false (by wrow_none_raised), .bool true, ?_, unshared_nil⟩, fun b o e => hk b o (by simp) e, rfl, by assumption⟩
  wrow_post)
