import PyProof.Rows.All
import Wide.All
import OpenK.AllK
import Wide.FinOn
import KE.LcTurns
import KE.KLcTest
import KE.KSortTup
import Lean
import PySem.Challenge.RW_no0415_01
set_option Elab.async false
set_option linter.all false
namespace Mine
open PySem PySem.W PyProof.Rows
set_option maxRecDepth 100000
/-! bytes: <, >, >=, <= of any two -/
theorem slot_lt : Slot "bytes" (cmpInfo .Lt).2.1 "bytes.__lt__" :=
  .of (owner := "bytes") (n := "__lt__") (by rw [typeLookup_type, builtinLookup_eq_fast]; kernel_rfl) (by decide +kernel) (by decide +kernel) (by decide +kernel)
    (by first | exact .inl (by decide +kernel) | exact .inr (by decide +kernel)) (by rw [isSubtype_type]; kernel_rfl)
theorem slot_gt : Slot "bytes" (cmpInfo .Gt).2.1 "bytes.__gt__" :=
  .of (owner := "bytes") (n := "__gt__") (by rw [typeLookup_type, builtinLookup_eq_fast]; kernel_rfl) (by decide +kernel) (by decide +kernel) (by decide +kernel)
    (by first | exact .inl (by decide +kernel) | exact .inr (by decide +kernel)) (by rw [isSubtype_type]; kernel_rfl)
theorem slot_ge : Slot "bytes" (cmpInfo .GtE).2.1 "bytes.__ge__" :=
  .of (owner := "bytes") (n := "__ge__") (by rw [typeLookup_type, builtinLookup_eq_fast]; kernel_rfl) (by decide +kernel) (by decide +kernel) (by decide +kernel)
    (by first | exact .inl (by decide +kernel) | exact .inr (by decide +kernel)) (by rw [isSubtype_type]; kernel_rfl)
theorem entry_lt : entryFor table "bytes.__lt__" = some Builtin.«bytes.__lt__» := entryFor_of_tree (by kernel_rfl)
theorem entry_gt : entryFor table "bytes.__gt__" = some Builtin.«bytes.__gt__» := entryFor_of_tree (by kernel_rfl)
theorem entry_ge : entryFor table "bytes.__ge__" = some Builtin.«bytes.__ge__» := entryFor_of_tree (by kernel_rfl)
theorem args_lt (a b : Value) : argsOk "bytes.__lt__" ⟨[a, b], []⟩ := by
  unfold argsOk; rw [signature?_of (id := "bytes.__lt__") (n := ['_', '_', 't', 'l', '_', '_']) (o := ['s', 'e', 't', 'y', 'b']) (by kernel_rfl) FB.owner_bytes]; kernel_rfl
theorem args_gt (a b : Value) : argsOk "bytes.__gt__" ⟨[a, b], []⟩ := by
  unfold argsOk; rw [signature?_of (id := "bytes.__gt__") (n := ['_', '_', 't', 'g', '_', '_']) (o := ['s', 'e', 't', 'y', 'b']) (by kernel_rfl) FB.owner_bytes]; kernel_rfl
theorem args_ge (a b : Value) : argsOk "bytes.__ge__" ⟨[a, b], []⟩ := by
  unfold argsOk; rw [signature?_of (id := "bytes.__ge__") (n := ['_', '_', 'e', 'g', '_', '_']) (o := ['s', 'e', 't', 'y', 'b']) (by kernel_rfl) FB.owner_bytes]; kernel_rfl
/-- less, of two runs of octets -/
def ltB (a b : Array UInt8) : Bool := Builtin.Bytes.order a.toList b.toList == .lt
theorem order_swap : ∀ a b : List UInt8, (Builtin.Bytes.order a b == .gt) = (Builtin.Bytes.order b a == .lt)
  | [], [] => rfl
  | [], _ :: _ => rfl
  | _ :: _, [] => rfl
  | x :: a, y :: b => by
    simp only [Builtin.Bytes.order]
    by_cases h1 : x < y
    · have h2 : ¬ y < x := fun h => absurd (UInt8.lt_trans h1 h) (UInt8.lt_irrefl _)
      simp [h1, h2]
    · by_cases h2 : y < x
      · simp [h1, h2]
      · simp [h1, h2, order_swap a b]
theorem gives_lt (b c : Array UInt8) (t u : Tok) : Gives (Builtin.«bytes.__lt__» ⟨[.bytes b t, .bytes c u], []⟩) (.val (.bool (ltB b c))) := by
  refine .of_wp fun M A E s Q hq => ?_
  show wpAny M A (isInstance (.bytes c u) (.type "bytes") >>= fun r => _) _ E s
  refine wpAny_bind (wpAny_isInstance (typeIs_bytes s c u) F.sub_bytes_bytes ?_)
  exact wpAny_pure ⟨_, rfl, hq⟩
theorem gives_gt (b c : Array UInt8) (t u : Tok) : Gives (Builtin.«bytes.__gt__» ⟨[.bytes b t, .bytes c u], []⟩) (.val (.bool (ltB c b))) := by
  refine .of_wp fun M A E s Q hq => ?_
  show wpAny M A (isInstance (.bytes c u) (.type "bytes") >>= fun r => _) _ E s
  refine wpAny_bind (wpAny_isInstance (typeIs_bytes s c u) F.sub_bytes_bytes ?_)
  exact wpAny_pure ⟨_, rfl, by unfold ltB at hq; rw [← order_swap] at hq; exact hq⟩
theorem gives_ge (b c : Array UInt8) (t u : Tok) : Gives (Builtin.«bytes.__ge__» ⟨[.bytes b t, .bytes c u], []⟩) (.val (.bool (!ltB b c))) := by
  refine .of_wp fun M A E s Q hq => ?_
  show wpAny M A (isInstance (.bytes c u) (.type "bytes") >>= fun r => _) _ E s
  refine wpAny_bind (wpAny_isInstance (typeIs_bytes s c u) F.sub_bytes_bytes ?_)
  exact wpAny_pure ⟨_, rfl, hq⟩
section
variable {prog : Program} {w : World} {A : Around} {E : Value → Shared → Prop} {s : Shared} {b c : Array UInt8} {t u : Tok}
theorem lt_bytes {Q : Value → Shared → Prop} (h : Q (.bool (ltB b c)) s) : wpAny (model prog w) A (compareOp .Lt (.bytes b t) (.bytes c u)) Q E s :=
  compareOp_gives (op := .Lt) (typeIs_bytes s b t) (typeIs_bytes s c u) slot_lt entry_lt (args_lt _ _) (gives_lt b c t u) (fun e => nomatch e) h
theorem gt_bytes {Q : Value → Shared → Prop} (h : Q (.bool (ltB c b)) s) : wpAny (model prog w) A (compareOp .Gt (.bytes b t) (.bytes c u)) Q E s :=
  compareOp_gives (op := .Gt) (typeIs_bytes s b t) (typeIs_bytes s c u) slot_gt entry_gt (args_gt _ _) (gives_gt b c t u) (fun e => nomatch e) h
theorem ge_bytes {Q : Value → Shared → Prop} (h : Q (.bool (!ltB b c)) s) : wpAny (model prog w) A (compareOp .GtE (.bytes b t) (.bytes c u)) Q E s :=
  compareOp_gives (op := .GtE) (typeIs_bytes s b t) (typeIs_bytes s c u) slot_ge entry_ge (args_ge _ _) (gives_ge b c t u) (fun e => nomatch e) h
end
open PySem PySem.W PyProof.Rows
set_option maxRecDepth 100000
section
variable {prog : Program} {w : World} {A : Around} {E : Value → Shared → Prop} {s : Shared}
theorem bytes_special : typeLookup (.type "bytes") "__bytes__" = pure (some (.builtin "bytes.__bytes__")) := by rw [typeLookup_type, builtinLookup_eq_fast]; kernel_rfl
theorem bb_new {b : Array UInt8} {t : Tok} {Q : Value → Shared → Prop} (hQ : Q (.bytes b t) s) :
    codeAny (model prog w) A (.call (.builtin "bytes.__new__") ⟨[.type "bytes", .bytes b t], []⟩) (wants Q E) s := by
  refine codeAny_of_tree ?_
  show wpAny _ A.in1 (do checkBuiltinCall "bytes.__new__" ⟨[.type "bytes", .bytes b t], []⟩; again (.builtin "bytes.__new__" ⟨[.type "bytes", .bytes b t], []⟩)) _ _ s
  refine wpAny_bind (wpAny_of_eq (F.bm_newCall _) (wpAny_pure ⟨plainId_quiet F.bm_plain _, codeAny_builtin F.bm_entry ?_⟩))
  rw [Around.under_plainId F.bm_plain _]
  unfold Builtin.«bytes.__new__»
  refine wpAny_bind (wpAny_of_eq (a := true) rfl ?_)
  refine bm_if_false rfl ?_
  refine wpAny_bind (wpAny_of_eq F.bm_sub ?_)
  refine bm_if_false rfl ?_
  refine wpAny_bind (wpAny_of_eq (F.bm_bind _) ?_)
  refine wpAny_bind (wpAny_of_eq (a := ()) rfl ?_)
  refine wpAny_bind (wpAny_of_eq (a := ()) rfl ?_)
  refine bm_if_false rfl ?_
  refine wpAny_bind (wpAny_specialOf (typeIs_bytes s b t) bytes_special ?_)
  dsimp only
  refine wpAny_bind (wpAny_rule ?_)
  refine wpAny_bind (wpAny_typeOf (typeIs_bytes s b t) ?_)
  refine bm_if_true rfl ?_
  first
    | exact wpAny_pure hQ
    | exact wpAny_pure ⟨_, rfl, hQ⟩
theorem call_bytes_bytes {b : Array UInt8} {t : Tok} {Q : Value → Shared → Prop} (hQ : Q (.bytes b t) s) : wpAny (model prog w) A (call (.type "bytes") [.bytes b t]) Q E s := by
  refine callType_codes (Q₁ := fun obj s₁ => s₁.TypeIs obj "bytes" ∧ Q obj s₁) F.bm_called (F.bm_typeCall _) F.entry_object_init
    (bb_new ⟨typeIs_bytes _ _ _, hQ⟩) fun obj s₁ h₁ => ?_
  exact ⟨h₁.1, F.args_object_init_2 obj _, object_init_meets F.bm_called.init.lookup F.bm_called.made (by decide) prog w A.in1 _ s₁ ⟨h₁.1, rfl, h₁.2⟩⟩
end
open PySem PySem.W PyProof.Rows
set_option maxRecDepth 100000
theorem nat_and_shift {x b k : Nat} (hx : x < 2 ^ k) : x &&& (b * 2 ^ k) = 0 := by
  apply Nat.eq_of_testBit_eq
  intro i
  rw [Nat.testBit_and, Nat.zero_testBit, Nat.testBit_mul_two_pow]
  by_cases h : i < k
  · have : ¬ k ≤ i := by omega
    simp [this]
  · have h2 : x.testBit i = false := Nat.testBit_lt_two_pow (Nat.lt_of_lt_of_le hx (Nat.pow_le_pow_right (by decide) (by omega)))
    simp [h2]
theorem bitAnd_nn {x y : Int} (hx : 0 ≤ x) (hy : 0 ≤ y) : Builtin.bitAnd x y = ((x.toNat &&& y.toNat : Nat) : Int) := by
  unfold Builtin.bitAnd
  have h1 : decide (0 ≤ x) = true := by simp; omega
  have h2 : decide (0 ≤ y) = true := by simp; omega
  simp [hx, hy]
theorem or_shift {x b : Int} (k : Nat) (hx : 0 ≤ x) (hx2 : x < 2 ^ k) (hb : 0 ≤ b) : Builtin.bitOr x (b * 2 ^ k) = x + b * 2 ^ k := by
  have hp : (0 : Int) ≤ b * 2 ^ k := Int.mul_nonneg hb (Int.le_of_lt (Int.pow_pos (by decide)))
  rw [bitOr_and, bitAnd_nn hx hp]
  have e : (b * 2 ^ k).toNat = b.toNat * 2 ^ k := by
    obtain ⟨n, rfl⟩ : ∃ n : Nat, b = (n : Int) := ⟨b.toNat, by omega⟩
    have e2 : ((n : Int) * 2 ^ k) = ((n * 2 ^ k : Nat) : Int) := by push_cast; rfl
    rw [e2, Int.toNat_natCast, Int.toNat_natCast]
  have hx3 : x.toNat < 2 ^ k := by
    have : x = (x.toNat : Int) := by omega
    rw [this] at hx2
    exact_mod_cast hx2
  rw [e, nat_and_shift hx3]
  omega
theorem and_255 {x : Int} (hx : 0 ≤ x) : Builtin.bitAnd x 255 = x % 256 := by
  rw [bitAnd_nn hx (by decide)]
  have : (x.toNat &&& 255) = x.toNat % 2 ^ 8 := by
    rw [show (255 : Nat) = 2 ^ 8 - 1 from rfl, Nat.and_two_pow_sub_one_eq_mod]
  show ((x.toNat &&& 255 : Nat) : Int) = _
  rw [this]
  omega
section
variable {prog : Program} {w : World} {A : Around} {E : Value → Shared → Prop} {s : Shared} {a b : Int} {t u : Tok} {Q : Value → Shared → Prop}
theorem shl8 (h0 : 0 ≤ a) (h1 : a < 4294967296) (h : Q (.int (a * 256) s.toks) { s with toks := s.toks + 1 }) : wpAny (model prog w) A (binaryOp .LShift (.int a t) (.int 8 u)) Q E s :=
  lshift_int_small (by decide) (by decide) (by omega) h
theorem shl16 (h0 : 0 ≤ a) (h1 : a < 4294967296) (h : Q (.int (a * 65536) s.toks) { s with toks := s.toks + 1 }) : wpAny (model prog w) A (binaryOp .LShift (.int a t) (.int 16 u)) Q E s :=
  lshift_int_small (by decide) (by decide) (by omega) h
theorem shl24 (h0 : 0 ≤ a) (h1 : a < 4294967296) (h : Q (.int (a * 16777216) s.toks) { s with toks := s.toks + 1 }) : wpAny (model prog w) A (binaryOp .LShift (.int a t) (.int 24 u)) Q E s :=
  lshift_int_small (by decide) (by decide) (by omega) h
theorem shl32 (h0 : 0 ≤ a) (h1 : a < 4294967296) (h : Q (.int (a * 4294967296) s.toks) { s with toks := s.toks + 1 }) : wpAny (model prog w) A (binaryOp .LShift (.int a t) (.int 32 u)) Q E s :=
  lshift_int_small (by decide) (by decide) (by omega) h
theorem or8 (h0 : 0 ≤ a) (h1 : a < 256) (h2 : 0 ≤ b) (h : Q (.int (a + b * 256) s.toks) { s with toks := s.toks + 1 }) : wpAny (model prog w) A (binaryOp .BitOr (.int a t) (.int (b * 256) u)) Q E s :=
  or_int (by have e := or_shift (x := a) (b := b) 8 h0 h1 h2; rw [show ((2 : Int) ^ 8) = 256 from rfl] at e; rw [e]; exact h)
theorem or16 (h0 : 0 ≤ a) (h1 : a < 65536) (h2 : 0 ≤ b) (h : Q (.int (a + b * 65536) s.toks) { s with toks := s.toks + 1 }) : wpAny (model prog w) A (binaryOp .BitOr (.int a t) (.int (b * 65536) u)) Q E s :=
  or_int (by have e := or_shift (x := a) (b := b) 16 h0 h1 h2; rw [show ((2 : Int) ^ 16) = 65536 from rfl] at e; rw [e]; exact h)
theorem or24 (h0 : 0 ≤ a) (h1 : a < 16777216) (h2 : 0 ≤ b) (h : Q (.int (a + b * 16777216) s.toks) { s with toks := s.toks + 1 }) : wpAny (model prog w) A (binaryOp .BitOr (.int a t) (.int (b * 16777216) u)) Q E s :=
  or_int (by have e := or_shift (x := a) (b := b) 24 h0 h1 h2; rw [show ((2 : Int) ^ 24) = 16777216 from rfl] at e; rw [e]; exact h)
theorem or32 (h0 : 0 ≤ a) (h1 : a < 4294967296) (h2 : 0 ≤ b) (h : Q (.int (a + b * 4294967296) s.toks) { s with toks := s.toks + 1 }) : wpAny (model prog w) A (binaryOp .BitOr (.int a t) (.int (b * 4294967296) u)) Q E s :=
  or_int (by have e := or_shift (x := a) (b := b) 32 h0 h1 h2; rw [show ((2 : Int) ^ 32) = 4294967296 from rfl] at e; rw [e]; exact h)
theorem shr8 (h : Q (.int (a / 256) s.toks) { s with toks := s.toks + 1 }) : wpAny (model prog w) A (binaryOp .RShift (.int a t) (.int 8 u)) Q E s :=
  rshift_int (by decide) (by rw [show ((2 : Int) ^ (8 : Int).toNat) = 256 from rfl, Int.fdiv_eq_ediv_of_nonneg _ (by decide)]; exact h)
theorem and255 (h0 : 0 ≤ a) (h : Q (.int (a % 256) s.toks) { s with toks := s.toks + 1 }) : wpAny (model prog w) A (binaryOp .BitAnd (.int a t) (.int 255 u)) Q E s :=
  and_int (by rw [and_255 h0]; exact h)
end
theorem bInts_inj {a b : Array UInt8} (h : KBw.bInts a = KBw.bInts b) : a = b := by
  have inj : ∀ l l' : List UInt8, (l.map fun c => ((c.toNat : Nat) : Int)) = (l'.map fun c => ((c.toNat : Nat) : Int)) → l = l' := by
    intro l
    induction l with
    | nil => intro l' h; cases l' with
      | nil => rfl
      | cons x r => simp at h
    | cons x r ih => intro l' h; cases l' with
      | nil => simp at h
      | cons y r' =>
        simp only [List.map_cons, List.cons.injEq] at h
        have : x = y := UInt8.toNat_inj.mp (by omega)
        rw [this, ih r' h.2]
  have := inj a.toList b.toList h
  exact Array.toList_inj.mp this
open PySem PySem.W PyProof.Rows PySem.Spec
set_option maxRecDepth 100000
abbrev Led := List (Addr × Obj)
section
variable {prog : Program} {w : World} {A : Around} {E : Value → Shared → Prop} {s : Shared} {env : Env} {h₀ : Heap} {x : Str} {body : List Stmt} {Q : Flow → Shared → Prop}
/-- what a turn of a loop has to show -/
def TurnJ (h₀ : Heap) (L : Addr) (J : (Str → Option Value) → Led → Prop) (I : Addr) (o : Obj) (s : Shared) (Q : Flow → Shared → Prop) (f : Flow) (s₂ : Shared) : Prop :=
  match f with
  | .ret v => Q (.ret v) s₂
  | .brk => Q .next s₂
  | _ => ∃ h' tk' m' news' led, s₂ = { s with heap := h', toks := tk' } ∧ Fr h₀ L h' m' ∧ News h₀ L h' led ∧ (I, o) ∈ led ∧ (∀ p ∈ news', p ∈ led) ∧ (∀ p ∈ news', p.1 ≠ I) ∧ J m' news'
theorem iter_rangeJ {r : Addr} {a₀ b₀ c : Int} {t₀ u₀ v₀ : Tok} {n : Nat} {m₀ : Str → Option Value} {news : Led} (J : Nat → (Str → Option Value) → Led → Prop)
    (hh : A.handled = none) (hr : IsRange s.heap r a₀ b₀ c t₀ u₀ v₀) (hsmall : Builtin.Range.small a₀ b₀ c = true) (hn : Builtin.Range.rangeSize a₀ b₀ c = (n : Int)) (F : Fr h₀ env.locals s.heap m₀) (N : News h₀ env.locals s.heap news) (hj : J 0 m₀ news)
    (turn : ∀ (i : Nat) t m₁ news₁ h tk I o, i < n → J i m₁ news₁ → (∀ p ∈ news₁, p.1 ≠ I) → Fr h₀ env.locals h (fun y => if y = x then some (.int (a₀ + i * c) t) else m₁ y) → News h₀ env.locals h ((I, o) :: news₁) →
      wpAny (model prog w) A (execs body env) (TurnJ h₀ env.locals (J (i + 1)) I o { s with heap := h, toks := tk } Q) E { s with heap := h, toks := tk })
    (done : ∀ m₁ news₁ h tk, J n m₁ news₁ → Fr h₀ env.locals h m₁ → News h₀ env.locals h news₁ → Q .next { s with heap := h, toks := tk }) :
    wpAny (model prog w) A (pyIter (.ref r)) (fun it s₂ => LoopAtV prog w A h₀ env x body Q E it s₂) E s := by
  refine wpAny_pyIter_range hr hsmall ?_
  have W := Walks.range (prog := prog) (w := w) hh s.heap.objs.size a₀ c n
  refine ⟨_, _, _, n, _, _, m₀, news, J, rfl, W, ?_, ?_, ?_, (by show IsRangeIter _ _ _ _ _; rw [hn]; simpa using Heap.get?_push_size _ rfl), F.push _, (fun p hp => ⟨Heap.get?_push_of_some _ (N p hp).1, (N p hp).2⟩), hj, ?_, ?_⟩
  · intro hm
    exact absurd F.ns.lt ((List.mem_singleton.mp hm) ▸ Nat.lt_irrefl _)
  · intro b hb
    rw [List.mem_singleton.mp hb]
    exact next_is_new F
  · intro p hp hI
    exact absurd (Heap.lt_size (N p hp).1) ((List.mem_singleton.mp hI) ▸ Nat.lt_irrefl _)
  · rintro i v m₁ news₁ s₁ own ⟨hh', tk', rfl⟩ hin ⟨t, rfl⟩ hJ hoff hown hget hall hst F₁ N₁
    obtain ⟨oI, ho⟩ : ∃ oI, hh'.get? s.heap.objs.size = some oI := ⟨_, hst⟩
    have hfree : h₀.get? s.heap.objs.size = none := next_is_new F
    have hIo := hall s.heap.objs.size (List.mem_singleton.mpr rfl) hfree _ ho
    have hone : ∀ p ∈ own, p = (s.heap.objs.size, oI) := fun p hp => by
      have e1 := List.mem_singleton.mp (hown p hp)
      have e2 := hget p hp
      refine Prod.ext e1 ?_
      have e3 : hh'.get? p.1 = some p.2 := e2
      rw [e1] at e3
      exact (Option.some.inj (ho.symm.trans e3)).symm
    refine wpAny_mono (turn i t m₁ news₁ hh' tk' _ oI hin hJ (fun p hp q => hoff p hp (List.mem_singleton.mpr q)) F₁ (fun p hp => ?_)) (fun f s₂ p => ?_) fun _ _ e => e
    · rcases List.mem_cons.mp hp with rfl | hp
      · exact N₁ _ (List.mem_append_left _ hIo)
      · exact N₁ _ (List.mem_append_right _ hp)
    · have fin : ∀ {s₂ : Shared}, (∃ h' tk' m' news' led, s₂ = { s with heap := h', toks := tk' } ∧ Fr h₀ env.locals h' m' ∧ News h₀ env.locals h' led ∧ (s.heap.objs.size, oI) ∈ led ∧ (∀ p ∈ news', p ∈ led) ∧ (∀ p ∈ news', p.1 ≠ s.heap.objs.size) ∧ J (i + 1) m' news') →
          LoopStepU h₀ env.locals [s.heap.objs.size] own (J (i + 1)) { s with heap := hh', toks := tk' } .next s₂ := by
        rintro s₂ ⟨h', tk, m', news', led, e, F', N', hI, hsub, hne, hj'⟩
        refine ⟨rfl, h', tk, m', news', e, F', fun p hp => ?_, fun p hp q => hne p hp (List.mem_singleton.mp q), hj'⟩
        rcases List.mem_append.mp hp with hp | hp
        · rw [hone p hp]; exact N' _ hI
        · exact N' _ (hsub p hp)
      cases f with
      | ret v => exact .ret p
      | brk => exact .brk p
      | next => exact .next (fin p)
      | cont => exact .cont (fin p)
  · rintro h' tk m' news' F' N' _ hJ
    exact done m' news' h' tk hJ F' N'
theorem small_up {n : Nat} (h : n ≤ 1000000) : Builtin.Range.small 0 (n : Int) 1 = true := small_one (by decide) (by decide) (by omega) (by omega)
theorem size_up (n : Nat) : Builtin.Range.rangeSize 0 (n : Int) 1 = (n : Int) := by
  unfold Builtin.Range.rangeSize
  simp
  omega
theorem size_down (n : Nat) : Builtin.Range.rangeSize ((n : Int) - 1) (-1) (-1) = (n : Int) := by
  unfold Builtin.Range.rangeSize
  simp
  omega
theorem small_down {n : Nat} (h : n ≤ 1000000) : Builtin.Range.small ((n : Int) - 1) (-1) (-1) = true := by
  unfold Builtin.Range.small
  rw [size_down]
  simp only [Builtin.Range.rangeFitsLong, Bool.and_eq_true, Bool.or_eq_true, decide_eq_true_eq, beq_iff_eq, show ¬ ((-1 : Int) > 0) by decide, if_false]
  omega
end
theorem news_of {h₀ h : Heap} {L : Addr} {a b : Led} (N : News h₀ L h a) (hs : ∀ p ∈ b, p ∈ a) : News h₀ L h b := fun p hp => N p (hs p hp)
section
variable {prog : Program} {w : World} {A : Around} {E : Value → Shared → Prop} {s : Shared} {env : Env} {h₀ : Heap} {x : Str} {body : List Stmt} {Q : Flow → Shared → Prop}
theorem iter_up {r : Addr} {t₀ u₀ v₀ : Tok} {n : Nat} {m₀ : Str → Option Value} {news : Led} (J : Nat → (Str → Option Value) → Led → Prop)
    (hh : A.handled = none) (hr : IsRange s.heap r 0 (n : Int) 1 t₀ u₀ v₀) (hn : n ≤ 1000000) (F : Fr h₀ env.locals s.heap m₀) (N : News h₀ env.locals s.heap news) (hj : J 0 m₀ news)
    (turn : ∀ (i : Nat) t m₁ news₁ h tk I o, i < n → J i m₁ news₁ → (∀ p ∈ news₁, p.1 ≠ I) → Fr h₀ env.locals h (fun y => if y = x then some (.int (i : Int) t) else m₁ y) → News h₀ env.locals h ((I, o) :: news₁) →
      wpAny (model prog w) A (execs body env) (TurnJ h₀ env.locals (J (i + 1)) I o { s with heap := h, toks := tk } Q) E { s with heap := h, toks := tk })
    (done : ∀ m₁ news₁ h tk, J n m₁ news₁ → Fr h₀ env.locals h m₁ → News h₀ env.locals h news₁ → Q .next { s with heap := h, toks := tk }) :
    wpAny (model prog w) A (pyIter (.ref r)) (fun it s₂ => LoopAtV prog w A h₀ env x body Q E it s₂) E s :=
  iter_rangeJ (x := x) J hh hr (small_up hn) (size_up n) F N hj (fun i t m₁ news₁ h tk I o hi hJ hne F₁ N₁ => turn i t m₁ news₁ h tk I o hi hJ hne (by rw [show (0 : Int) + i * 1 = i from by omega] at F₁; exact F₁) N₁) done
theorem iter_down {r : Addr} {t₀ u₀ v₀ : Tok} {n : Nat} {m₀ : Str → Option Value} {news : Led} (J : Nat → (Str → Option Value) → Led → Prop)
    (hh : A.handled = none) (hr : IsRange s.heap r ((n : Int) - 1) (-1) (-1) t₀ u₀ v₀) (hn : n ≤ 1000000) (F : Fr h₀ env.locals s.heap m₀) (N : News h₀ env.locals s.heap news) (hj : J n m₀ news)
    (turn : ∀ (i : Nat) t m₁ news₁ h tk I o, i < n → J (i + 1) m₁ news₁ → (∀ p ∈ news₁, p.1 ≠ I) → Fr h₀ env.locals h (fun y => if y = x then some (.int (i : Int) t) else m₁ y) → News h₀ env.locals h ((I, o) :: news₁) →
      wpAny (model prog w) A (execs body env) (TurnJ h₀ env.locals (J i) I o { s with heap := h, toks := tk } Q) E { s with heap := h, toks := tk })
    (done : ∀ m₁ news₁ h tk, J 0 m₁ news₁ → Fr h₀ env.locals h m₁ → News h₀ env.locals h news₁ → Q .next { s with heap := h, toks := tk }) :
    wpAny (model prog w) A (pyIter (.ref r)) (fun it s₂ => LoopAtV prog w A h₀ env x body Q E it s₂) E s :=
  iter_rangeJ (x := x) (fun i => J (n - i)) hh hr (small_down hn) (size_down n) F N hj (fun i t m₁ news₁ h tk I o hi hJ hne F₁ N₁ => by
    have e : (n : Int) - 1 + i * -1 = ((n - 1 - i : Nat) : Int) := by omega
    rw [e] at F₁
    have e2 : n - i = n - 1 - i + 1 := by omega
    have e3 : n - (i + 1) = n - 1 - i := by omega
    rw [e2] at hJ
    simp only [e3]
    exact turn (n - 1 - i) t m₁ news₁ h tk I o (by omega) hJ hne F₁ N₁) (fun m₁ news₁ h tk hJ => done m₁ news₁ h tk (by simpa using hJ))
theorem set_list {D : Addr} {items : Array Value} {n : Nat} {k : Int} {t : Tok} {v : Value} {L : Addr} {m : Str → Option Value} {news news' : Led} {Q : Unit → Shared → Prop} (F : Fr h₀ L s.heap m) (N : News h₀ L s.heap news)
    (U : Upd D (listOf items n) (listOf (items.setIfInBounds k.toNat v) n) news news') (h0 : 0 ≤ k) (h1 : k < items.size) (hfit : k < 2 ^ 63) (h : ∀ h', Fr h₀ L h' m → News h₀ L h' news' → Q () { s with heap := h' }) :
    wpAny (model prog w) A (setItem (.ref D) (.int k t) v) Q E s := by
  obtain ⟨pre, post, rfl, rfl, a, b⟩ := U.split
  have z := N (D, listOf items n) (List.mem_append.mpr (.inr (.head _)))
  refine ki_setAt z.1 h0 hfit h1 (h _ (F.change (Heap.SameBut.update ..) z.2.1 z.2.2) (ki_turn _ N a b rfl ?_))
  simp
end
open PySem PySem.W PyProof.Rows
set_option maxRecDepth 100000
theorem and_m32 {x : Int} (hx : 0 ≤ x) : Builtin.bitAnd x 4294967295 = x % 4294967296 := by
  rw [bitAnd_nn hx (by decide)]
  have : (x.toNat &&& 4294967295) = x.toNat % 2 ^ 32 := by
    rw [show (4294967295 : Nat) = 2 ^ 32 - 1 from rfl, Nat.and_two_pow_sub_one_eq_mod]
  show ((x.toNat &&& 4294967295 : Nat) : Int) = _
  rw [this]
  omega
theorem or_comm_nn {x y : Int} (hx : 0 ≤ x) (hy : 0 ≤ y) : Builtin.bitOr x y = Builtin.bitOr y x := by
  rw [bitOr_and, bitOr_and, bitAnd_nn hx hy, bitAnd_nn hy hx, Nat.and_comm]; omega
section
variable {prog : Program} {w : World} {A : Around} {E : Value → Shared → Prop} {s : Shared} {a b : Int} {t u : Tok} {Q : Value → Shared → Prop}
theorem shr16 (h : Q (.int (a / 65536) s.toks) { s with toks := s.toks + 1 }) : wpAny (model prog w) A (binaryOp .RShift (.int a t) (.int 16 u)) Q E s :=
  rshift_int (by decide) (by rw [show ((2 : Int) ^ (16 : Int).toNat) = 65536 from rfl, Int.fdiv_eq_ediv_of_nonneg _ (by decide)]; exact h)
theorem shr24 (h : Q (.int (a / 16777216) s.toks) { s with toks := s.toks + 1 }) : wpAny (model prog w) A (binaryOp .RShift (.int a t) (.int 24 u)) Q E s :=
  rshift_int (by decide) (by rw [show ((2 : Int) ^ (24 : Int).toNat) = 16777216 from rfl, Int.fdiv_eq_ediv_of_nonneg _ (by decide)]; exact h)
theorem shr32 (h : Q (.int (a / 4294967296) s.toks) { s with toks := s.toks + 1 }) : wpAny (model prog w) A (binaryOp .RShift (.int a t) (.int 32 u)) Q E s :=
  rshift_int (by decide) (by rw [show ((2 : Int) ^ (32 : Int).toNat) = 4294967296 from rfl, Int.fdiv_eq_ediv_of_nonneg _ (by decide)]; exact h)
theorem andM32 (h0 : 0 ≤ a) (h : Q (.int (a % 4294967296) s.toks) { s with toks := s.toks + 1 }) : wpAny (model prog w) A (binaryOp .BitAnd (.int a t) (.int 4294967295 u)) Q E s :=
  and_int (by rw [and_m32 h0]; exact h)
theorem or8r (h0 : 0 ≤ a) (h1 : a < 256) (h2 : 0 ≤ b) (h : Q (.int (a + b * 256) s.toks) { s with toks := s.toks + 1 }) : wpAny (model prog w) A (binaryOp .BitOr (.int (b * 256) u) (.int a t)) Q E s :=
  or_int (by rw [or_comm_nn (by omega) h0]; have e := or_shift (x := a) (b := b) 8 h0 h1 h2; rw [show ((2 : Int) ^ 8) = 256 from rfl] at e; rw [e]; exact h)
theorem add_bb {x y : Array UInt8} (hz : x.size + y.size ≤ 16777216) (h : ∀ t' k, Q (.bytes (x ++ y) t') { s with toks := k }) : wpAny (model prog w) A (binaryOp .Add (.bytes x t) (.bytes y u)) Q E s := KBy.add_bytes hz h
theorem shl8b (h0 : 0 ≤ a) (h1 : a < 72057594037927936) (h : Q (.int (a * 256) s.toks) { s with toks := s.toks + 1 }) : wpAny (model prog w) A (binaryOp .LShift (.int a t) (.int 8 u)) Q E s :=
  lshift_int_small (by decide) (by decide) (by omega) h
end
open PySem PySem.W PyProof.Rows PySem.Spec
set_option maxRecDepth 100000
section
variable {prog : Program} {w : World} {A : Around} {E : Value → Shared → Prop} {s : Shared} {env : Env} {h₀ : Heap} {x : Str} {body : List Stmt} {Q : Flow → Shared → Prop}
/-- a loop over a list of the ledger, by what holds between its turns -/
theorem iter_listJ {l : Addr} {items : Array Value} {n : Nat} {m₀ : Str → Option Value} {news : Led} (J : Nat → (Str → Option Value) → Led → Prop)
    (hh : A.handled = none) (F : Fr h₀ env.locals s.heap m₀) (N : News h₀ env.locals s.heap news) (hl : ∀ i m' nw, J i m' nw → (l, listOf items n) ∈ nw) (hj : J 0 m₀ news)
    (turn : ∀ (i : Nat) v m₁ news₁ h tk I o, items[i]? = some v → J i m₁ news₁ → (∀ p ∈ news₁, p.1 ≠ I) → Fr h₀ env.locals h (fun y => if y = x then some v else m₁ y) → News h₀ env.locals h ((I, o) :: news₁) →
      wpAny (model prog w) A (execs body env) (TurnJ h₀ env.locals (J (i + 1)) I o { s with heap := h, toks := tk } Q) E { s with heap := h, toks := tk })
    (done : ∀ m₁ news₁ h tk, J items.size m₁ news₁ → Fr h₀ env.locals h m₁ → News h₀ env.locals h news₁ → Q .next { s with heap := h, toks := tk }) :
    wpAny (model prog w) A (pyIter (.ref l)) (fun it s₂ => LoopAtV prog w A h₀ env x body Q E it s₂) E s := by
  have hm := hl _ _ _ hj
  have hlist := News.isList N hm
  have hlt : l < s.heap.objs.size := Heap.lt_size (N _ hm).1
  refine wpAny_pyIter_list hlist ?_
  have W := Walks.list (prog := prog) (w := w) hh s.heap.objs.size l (Nat.ne_of_lt hlt) items
  refine ⟨_, _, _, _, _, _, m₀, news, J, rfl, W, ?_, ?_, ?_, ⟨⟨_, Heap.get?_push_size _ rfl, rfl, rfl⟩, hlist.push _⟩, F.push _, (fun p hp => ⟨Heap.get?_push_of_some _ (N p hp).1, (N p hp).2⟩), hj, ?_, ?_⟩
  · intro hm'
    rcases List.mem_cons.mp hm' with e | hm'
    · exact absurd F.ns.lt (e ▸ Nat.lt_irrefl _)
    · exact (N _ hm).2.1 (List.mem_singleton.mp hm').symm
  · intro b hb
    rw [List.mem_singleton.mp hb]
    exact next_is_new F
  · intro p hp hI
    exact absurd (Heap.lt_size (N p hp).1) ((List.mem_singleton.mp hI) ▸ Nat.lt_irrefl _)
  · rintro i v m₁ news₁ s₁ own ⟨hh', tk', rfl⟩ hin hv hJ hoff hown hget hall hst F₁ N₁
    obtain ⟨oI, ho⟩ : ∃ oI, hh'.get? s.heap.objs.size = some oI := by
      obtain ⟨⟨o, h1, _⟩, _⟩ := hst
      exact ⟨o, h1⟩
    have hfree : h₀.get? s.heap.objs.size = none := next_is_new F
    have hIo := hall s.heap.objs.size (.head _) hfree _ ho
    have hpl := hl _ _ _ hJ
    have hplg : hh'.get? l = some (listOf items n) := (N₁ _ (List.mem_append_right _ hpl)).1
    have hone : ∀ p ∈ own, p = (s.heap.objs.size, oI) ∨ p = (l, listOf items n) := fun p hp => by
      have e2 : hh'.get? p.1 = some p.2 := hget p hp
      rcases List.mem_cons.mp (hown p hp) with e1 | e1
      · left
        refine Prod.ext e1 ?_
        rw [e1] at e2
        exact (Option.some.inj (ho.symm.trans e2)).symm
      · right
        have e1 := List.mem_singleton.mp e1
        refine Prod.ext e1 ?_
        rw [e1] at e2
        exact (Option.some.inj (hplg.symm.trans e2)).symm
    refine wpAny_mono (turn i v m₁ news₁ hh' tk' _ oI hv hJ (fun p hp q => hoff p hp (List.mem_singleton.mpr q)) F₁ (fun p hp => ?_)) (fun f s₂ p => ?_) fun _ _ e => e
    · rcases List.mem_cons.mp hp with rfl | hp
      · exact N₁ _ (List.mem_append_left _ hIo)
      · exact N₁ _ (List.mem_append_right _ hp)
    · have fin : ∀ {s₂ : Shared}, (∃ h' tk' m' news' led, s₂ = { s with heap := h', toks := tk' } ∧ Fr h₀ env.locals h' m' ∧ News h₀ env.locals h' led ∧ (s.heap.objs.size, oI) ∈ led ∧ (∀ p ∈ news', p ∈ led) ∧ (∀ p ∈ news', p.1 ≠ s.heap.objs.size) ∧ J (i + 1) m' news') →
          LoopStepU h₀ env.locals [s.heap.objs.size] own (J (i + 1)) { s with heap := hh', toks := tk' } .next s₂ := by
        rintro s₂ ⟨h', tk, m', news', led, e, F', N', hI, hsub, hne, hj'⟩
        refine ⟨rfl, h', tk, m', news', e, F', fun p hp => ?_, fun p hp q => hne p hp (List.mem_singleton.mp q), hj'⟩
        rcases List.mem_append.mp hp with hp | hp
        · rcases hone p hp with rfl | rfl
          · exact N' _ hI
          · exact N' _ (hsub _ (hl _ _ _ hj'))
        · exact N' _ (hsub p hp)
      cases f with
      | ret v => exact .ret p
      | brk => exact .brk p
      | next => exact .next (fin p)
      | cont => exact .cont (fin p)
  · rintro h' tk m' news' F' N' _ hJ
    exact done m' news' h' tk hJ F' N'
theorem app_list {D : Addr} {items : Array Value} {n : Nat} {v : Value} {L : Addr} {m : Str → Option Value} {news news' : Led} {Q : Value → Shared → Prop} (F : Fr h₀ L s.heap m) (N : News h₀ L s.heap news)
    (U : Upd D (listOf items n) (listOf (items.push v) (n + 1)) news news') (hz : items.size ≤ 10000) (h : ∀ h', Fr h₀ L h' m → News h₀ L h' news' → Q .none { s with heap := h' }) :
    wpAny (model prog w) A (call (.builtin "list.append") [.ref D, v]) Q E s := by
  obtain ⟨pre, post, rfl, rfl, a, b⟩ := U.split
  have z := N (D, listOf items n) (List.mem_append.mpr (.inr (.head _)))
  have hl : s.heap.IsList D items := PySem.IsL.isList (n := n) z.1
  refine wpAny_call_entry slot_list_append hl.typeIs entry_list_append ?_ (args_list_append _ _)
  show wpAny _ _ (updateSeq D (·.push v) >>= fun _ => ret .none) _ _ s
  refine wpAny_bind ?_
  refine wpAny_updateSeq z.1 rfl (wpAny_pure ⟨.none, rfl, ?_⟩) (by rw [sizeLine_eq]; (try rw [Array.size_push]); omega)
  exact h _ (F.change (Heap.SameBut.update ..) z.2.1 z.2.2) (ki_turn _ N a b rfl (by simp))
end
theorem all_cons {a : Addr} {o : Obj} {r : Led} {d : Addr} (h : a ≠ d) (g : ∀ p ∈ r, p.1 ≠ d) : ∀ p ∈ (a, o) :: r, p.1 ≠ d := fun p hp => by
  rcases List.mem_cons.mp hp with rfl | hp
  · exact h
  · exact g p hp
theorem all_nil {d : Addr} : ∀ p ∈ ([] : Led), p.1 ≠ d := fun _ hp => nomatch hp
open PySem PySem.W PyProof.Rows PySem.Spec
/-! a loop over a range whose name is a cell of the frame -/
def TurnC (h₀ : Heap) (L c : Addr) (own : Led) (J : (Str → Option Value) → Led → Prop) (I : Addr) (o : Obj) (s : Shared) (Q : Flow → Shared → Prop) (f : Flow) (s₂ : Shared) : Prop :=
  match f with
  | .ret v => Q (.ret v) s₂
  | .brk => Q .next s₂
  | _ => ∃ h' tk' m' news' led oc v, s₂ = { s with heap := h', toks := tk' } ∧ Fr h₀ L h' m' ∧ News h₀ L h' led ∧ (I, o) ∈ led ∧ (c, oc) ∈ led ∧ oc.data = .cell v ∧ (∀ p ∈ own, p ∈ led) ∧ (∀ p ∈ news', p ∈ led) ∧ (∀ p ∈ news', p.1 ≠ I ∧ p.1 ≠ c) ∧ J m' news'
def LoopAtC (prog : Program) (w : World) (A : Around) (h₀ : Heap) (env : Env) (c : Addr) (body : List Stmt) (Q : Flow → Shared → Prop) (E : Value → Shared → Prop) (it : Value) (s₂ : Shared) : Prop :=
  ∃ (I : Addr) (fp : List Addr) (own : Led) (n : Nat) (P : Nat → Value → Prop) (St : Nat → Heap → Prop) (m : Str → Option Value) (news : Led) (oc : Obj) (vc : Option Value) (J : Nat → (Str → Option Value) → Led → Prop),
    it = .ref I ∧ Walks prog w A I fp [I] n P St ∧ (∀ b ∈ fp, b = I ∨ ∃ o, (b, o) ∈ own) ∧ (∀ p ∈ own, p.1 ≠ I ∧ p.1 ≠ c) ∧ @Ne Nat env.locals I ∧ @Ne Nat c I ∧ @Ne Nat env.locals c ∧ h₀.get? I = none ∧ (∀ i h, St i h → ∃ o, h.get? I = some o) ∧ (∀ p ∈ news, p.1 ≠ I ∧ p.1 ≠ c) ∧ oc.data = .cell vc ∧ St 0 s₂.heap ∧ Fr h₀ env.locals s₂.heap m ∧ News h₀ env.locals s₂.heap ((c, oc) :: (own ++ news)) ∧ J 0 m news ∧
    (∀ i v m₁ news₁ h tk o oc, i < n → P i v → J i m₁ news₁ → (∀ p ∈ news₁, p.1 ≠ I ∧ p.1 ≠ c) → oc.data = .cell (some v) → Fr h₀ env.locals h m₁ → News h₀ env.locals h ((I, o) :: (c, oc) :: (own ++ news₁)) →
      wpAny (model prog w) A (execs body env) (TurnC h₀ env.locals c own (J (i + 1)) I o { s₂ with heap := h, toks := tk } Q) E { s₂ with heap := h, toks := tk }) ∧
    ∀ h' tk m' news' oc v, oc.data = .cell v → Fr h₀ env.locals h' m' → News h₀ env.locals h' ((c, oc) :: (own ++ news')) → (∀ p ∈ news', p.1 ≠ c) → J n m' news' → Q .next { s₂ with heap := h', toks := tk }
section
variable {prog : Program} {w : World} {A : Around} {s : Shared} {env : Env} {h₀ : Heap}
theorem For_C {E : Value → Shared → Prop} {Q : Flow → Shared → Prop} {x : Str} {c : Addr} {px pos : Pos} {iter : Expr} {body : List Stmt} (h₀ : Heap) (hk : env.scope.kind = .function) (hx : env.kindOf x = some .cell) (hc : env.cells.lookup x = some c)
    (h : wpAny (model prog w) A (eval iter env) (fun xv s₁ => wpAny (model prog w) A (pyIter xv) (fun it s₂ => LoopAtC prog w A h₀ env c body Q E it s₂) E s₁) E s)
    (hs : ∀ x, foldedSetIterable iter env x = pure x := by intro _; rfl)
    (hE : PassesOwn (model prog w) A env E := by passes_own) :
    wpAny (model prog w) A (exec (.For (.Name x px) iter body [] pos) env) Q E s := by
  refine wpAny_For (wpAny_mono h (fun xv s₁ h₁ => wpAny_mono h₁ (fun it s₂ h₂ => ?_) fun _ _ e => e) fun _ _ e => e) hs
  obtain ⟨I, fp, own, n, P, St, m, news, oc, vc, J, rfl, W, hfp, hown, hL, hcI, hLc, hI0, hStI, hnw, hoc, hst, F, N, h0, step, hQ⟩ := h₂
  refine codeAny_forLoop (R := fun r s' => match r with | .ok f => Q f s' | .error e => cameBackBy (model prog w) A env E e s')
    (fun k s' => ∃ h' tk m' news' i oc v, s' = { s₂ with heap := h', toks := tk } ∧ oc.data = .cell v ∧ St i h' ∧ Fr h₀ env.locals h' m' ∧ News h₀ env.locals h' ((c, oc) :: (own ++ news')) ∧ (∀ p ∈ news', p.1 ≠ I ∧ p.1 ≠ c) ∧ J i m' news' ∧ i ≤ n ∧ k = n + 1 - i) ?_ (n + 1)
    ⟨s₂.heap, s₂.toks, m, news, 0, oc, vc, rfl, hoc, hst, F, N, hnw, h0, Nat.zero_le _, rfl⟩
  rintro k s' ⟨h', tk, m', news', i, oc', vc', rfl, hoc', hst', F', N', hnw', hJ, hi, rfl⟩
  have ne_of : ∀ {b : Addr}, @Ne Nat b I → b ∉ [I] := fun hne hm => hne (List.mem_singleton.mp hm)
  have hall0 : ∀ p ∈ own ++ news', p.1 ≠ I ∧ p.1 ≠ c := fun p hp => (List.mem_append.mp hp).elim (hown p) (hnw' p)
  have next : ∀ h₁ : Heap, (∀ b o, b ∉ [I] → h'.get? b = some o → h₁.get? b = some o) → Fr h₀ env.locals h₁ m' ∧ News h₀ env.locals h₁ ((c, oc') :: (own ++ news')) := fun h₁ hk₁ =>
    ⟨⟨F'.ns.at' fun o e => hk₁ _ o (ne_of hL) e, fun b o e => hk₁ b o (ne_of fun q => by rw [q, hI0] at e; cases e) (F'.keep b o e), F'.above⟩, fun p hp => ⟨hk₁ _ _ (ne_of (by
      rcases List.mem_cons.mp hp with rfl | hp
      · exact hcI
      · exact (hall0 p hp).1)) (N' p hp).1, (N' p hp).2⟩⟩
  have hall : ∀ p ∈ own ++ news', p.1 ≠ I ∧ p.1 ≠ c := fun p hp => (List.mem_append.mp hp).elim (hown p) (hnw' p)
  by_cases hlt : i < n
  · refine W.item i _ _ _ hlt hst' fun v h₁ tk₁ hP hst₁ hk₁ => ?_
    obtain ⟨F₁, N₁⟩ := next h₁ hk₁
    have hm1 := N₁ (c, oc') (.head _)
    refine wpAny_assign_Name (wpAny_storeName_cell hk hx hc ⟨oc', hm1.1, hoc'⟩ fun h₂ hv₂ hs₂ => ?_)
    obtain ⟨oc₂, hg₂, hd₂⟩ := hv₂
    obtain ⟨o, ho⟩ := hStI _ _ hst₁
    have ho₂ : h₂.get? I = some o := (hs₂.2 I fun q => hcI q.symm).trans ho
    have F₂ : Fr h₀ env.locals h₂ m' := ⟨F₁.ns.sameBut hs₂ hLc, fun b ob e => (hs₂.2 b (fun q => by rw [q, hm1.2.2] at e; cases e)).trans (F₁.keep b ob e), F₁.above⟩
    have N₂ : News h₀ env.locals h₂ ((I, o) :: (c, oc₂) :: (own ++ news')) := fun p hp => by
      rcases List.mem_cons.mp hp with rfl | hp
      · exact ⟨ho₂, fun q => hL q.symm, hI0⟩
      · rcases List.mem_cons.mp hp with rfl | hp
        · exact ⟨hg₂, hm1.2⟩
        · have z := N₁ p (.tail _ hp)
          exact ⟨(hs₂.2 p.1 (hall p hp).2).trans z.1, z.2⟩
    refine wpAny_mono (wpAny_passesOwn hE (step i v m' news' h₂ _ o oc₂ hlt hP hJ hnw' hd₂ F₂ N₂)) (fun f s₃ h₃ => ?_) fun _ _ e => e
    have fin : (∃ h' tk' m' news' led oc v, s₃ = { s₂ with heap := h', toks := tk' } ∧ Fr h₀ env.locals h' m' ∧ News h₀ env.locals h' led ∧ (I, o) ∈ led ∧ (c, oc) ∈ led ∧ oc.data = .cell v ∧ (∀ p ∈ own, p ∈ led) ∧ (∀ p ∈ news', p ∈ led) ∧ (∀ p ∈ news', p.1 ≠ I ∧ p.1 ≠ c) ∧ J (i + 1) m' news') →
        ∃ m, m < n + 1 - i ∧ ∃ h' tk m' news' i oc v, s₃ = { s₂ with heap := h', toks := tk } ∧ oc.data = .cell v ∧ St i h' ∧ Fr h₀ env.locals h' m' ∧ News h₀ env.locals h' ((c, oc) :: (own ++ news')) ∧ (∀ p ∈ news', p.1 ≠ I ∧ p.1 ≠ c) ∧ J i m' news' ∧ i ≤ n ∧ m = n + 1 - i := by
      rintro ⟨h₃', tk₃, m₂, news₂, led, oc₃, v₃, rfl, F₃, N₃, hI, hcm, hcd, hos, hsub, hne, hJ₃⟩
      refine ⟨n + 1 - (i + 1), by omega, h₃', tk₃, m₂, news₂, i + 1, oc₃, v₃, rfl, hcd, ?_, F₃, fun p hp => ?_, hne, hJ₃, hlt, rfl⟩
      · have st₂ : St (i + 1) h₂ := W.frame _ _ _ hst₁ fun b hb o' e => by
          rcases hfp b hb with rfl | ⟨ob, hob⟩
          · rw [ho] at e
            cases e
            exact ho₂
          · exact (hs₂.2 b (hown _ hob).2).trans e
        refine W.frame _ _ _ st₂ fun b hb o' e => ?_
        rcases hfp b hb with rfl | ⟨ob, hob⟩
        · rw [ho₂] at e
          cases e
          exact (N₃ _ hI).1
        · have z : h₂.get? b = some ob := (N₂ _ (.tail _ (.tail _ (List.mem_append_left _ hob)))).1
          rw [z] at e
          cases e
          exact (N₃ _ (hos _ hob)).1
      · rcases List.mem_cons.mp hp with rfl | hp
        · exact N₃ _ hcm
        · exact (List.mem_append.mp hp).elim (fun q => N₃ p (hos p q)) fun q => N₃ p (hsub p q)
    cases f with
    | ret v => exact h₃
    | brk => exact h₃
    | cont => exact fin h₃
    | next => exact fin h₃
  · have hin : i = n := by omega
    subst hin
    refine W.done _ _ _ hst' fun h₁ tk₁ hk₁ => wpAny_execs_nil ?_
    obtain ⟨F₁, N₁⟩ := next h₁ hk₁
    exact hQ h₁ tk₁ m' news' oc' vc' hoc' F₁ N₁ (fun p hp => (hnw' p hp).2) hJ
theorem iter_upC {E : Value → Shared → Prop} {Q : Flow → Shared → Prop} {c : Addr} {body : List Stmt} {r : Addr} {t₀ u₀ v₀ : Tok} {n : Nat} {m₀ : Str → Option Value} {news : Led} {oc : Obj} {vc : Option Value} (J : Nat → (Str → Option Value) → Led → Prop)
    (hh : A.handled = none) (hr : IsRange s.heap r 0 (n : Int) 1 t₀ u₀ v₀) (hn : n ≤ 1000000) (F : Fr h₀ env.locals s.heap m₀) (N : News h₀ env.locals s.heap ((c, oc) :: news)) (hoc : oc.data = .cell vc) (hne : ∀ p ∈ news, p.1 ≠ c) (hj : J 0 m₀ news)
    (turn : ∀ (i : Nat) t m₁ news₁ h tk I o oc, i < n → J i m₁ news₁ → (∀ p ∈ news₁, p.1 ≠ I ∧ p.1 ≠ c) → @Ne Nat c I → oc.data = .cell (some (.int (i : Int) t)) → Fr h₀ env.locals h m₁ → News h₀ env.locals h ((I, o) :: (c, oc) :: news₁) →
      wpAny (model prog w) A (execs body env) (TurnC h₀ env.locals c [] (J (i + 1)) I o { s with heap := h, toks := tk } Q) E { s with heap := h, toks := tk })
    (done : ∀ m₁ news₁ h tk oc v, J n m₁ news₁ → oc.data = .cell v → (∀ p ∈ news₁, p.1 ≠ c) → Fr h₀ env.locals h m₁ → News h₀ env.locals h ((c, oc) :: news₁) → Q .next { s with heap := h, toks := tk }) :
    wpAny (model prog w) A (pyIter (.ref r)) (fun it s₂ => LoopAtC prog w A h₀ env c body Q E it s₂) E s := by
  refine wpAny_pyIter_range hr (small_up hn) ?_
  have W := Walks.range (prog := prog) (w := w) hh s.heap.objs.size 0 1 n
  have hc := N (c, oc) (.head _)
  have hcI : @Ne Nat c s.heap.objs.size := Nat.ne_of_lt (Heap.lt_size hc.1)
  refine ⟨_, _, [], n, _, _, m₀, news, oc, vc, J, rfl, W, fun b hb => .inl (List.mem_singleton.mp hb), (fun p hp => (nomatch hp)), ?_, hcI, fun q => hc.2.1 q.symm, next_is_new F, fun i h hs => ⟨_, hs⟩, fun p hp => ⟨fun hI => ?_, hne p hp⟩, hoc, (by show IsRangeIter _ _ _ _ _; rw [size_up]; simpa using Heap.get?_push_size _ rfl), F.push _, (fun p hp => ⟨Heap.get?_push_of_some _ (N p hp).1, (N p hp).2⟩), hj, ?_, ?_⟩
  · exact fun hm => absurd F.ns.lt (hm ▸ Nat.lt_irrefl _)
  · exact absurd (Heap.lt_size (N p (.tail _ hp)).1) (hI ▸ Nat.lt_irrefl _)
  · rintro i v m₁ news₁ h tk o oc hi ⟨t, rfl⟩ hJ hne hoc F₁ N₁
    exact turn i t m₁ news₁ h tk _ o oc hi hJ hne hcI (by rw [show (0 : Int) + i * 1 = i from by omega] at hoc; exact hoc) F₁ N₁
  · intro h' tk m' news' oc v hoc F' N' hne hJ
    exact done m' news' h' tk oc v hJ hoc hne F' N'
theorem iter_listC {E : Value → Shared → Prop} {Q : Flow → Shared → Prop} {c l : Addr} {items : Array Value} {body : List Stmt} {n : Nat} {m₀ : Str → Option Value} {news : Led} {oc : Obj} {vc : Option Value} (J : Nat → (Str → Option Value) → Led → Prop)
    (hh : A.handled = none) (F : Fr h₀ env.locals s.heap m₀) (N : News h₀ env.locals s.heap ((c, oc) :: (l, listOf items n) :: news)) (hoc : oc.data = .cell vc) (hlc : @Ne Nat l c) (hne : ∀ p ∈ news, p.1 ≠ c) (hj : J 0 m₀ news)
    (turn : ∀ (i : Nat) v m₁ news₁ h tk I o oc, items[i]? = some v → J i m₁ news₁ → (∀ p ∈ news₁, p.1 ≠ I ∧ p.1 ≠ c) → @Ne Nat c I → oc.data = .cell (some v) → Fr h₀ env.locals h m₁ → News h₀ env.locals h ((I, o) :: (c, oc) :: (l, listOf items n) :: news₁) →
      wpAny (model prog w) A (execs body env) (TurnC h₀ env.locals c [(l, listOf items n)] (J (i + 1)) I o { s with heap := h, toks := tk } Q) E { s with heap := h, toks := tk })
    (done : ∀ m₁ news₁ h tk oc v, J items.size m₁ news₁ → oc.data = .cell v → (∀ p ∈ news₁, p.1 ≠ c) → Fr h₀ env.locals h m₁ → News h₀ env.locals h ((c, oc) :: (l, listOf items n) :: news₁) → Q .next { s with heap := h, toks := tk }) :
    wpAny (model prog w) A (pyIter (.ref l)) (fun it s₂ => LoopAtC prog w A h₀ env c body Q E it s₂) E s := by
  have hm := N (l, listOf items n) (.tail _ (.head _))
  have hlist := News.isList N (.tail _ (.head _))
  have hlt : l < s.heap.objs.size := Heap.lt_size hm.1
  refine wpAny_pyIter_list hlist ?_
  have W := Walks.list (prog := prog) (w := w) hh s.heap.objs.size l (Nat.ne_of_lt hlt) items
  have hc := N (c, oc) (.head _)
  have hcI : @Ne Nat c s.heap.objs.size := Nat.ne_of_lt (Heap.lt_size hc.1)
  refine ⟨_, _, [(l, listOf items n)], _, _, _, m₀, news, oc, vc, J, rfl, W, fun b hb => ?_, fun p hp => ?_, ?_, hcI, fun q => hc.2.1 q.symm, next_is_new F, fun i h hs => ?_, fun p hp => ⟨fun hI => ?_, hne p hp⟩, hoc, ⟨⟨_, Heap.get?_push_size _ rfl, rfl, rfl⟩, hlist.push _⟩, F.push _, (fun p hp => ⟨Heap.get?_push_of_some _ (N p hp).1, (N p hp).2⟩), hj, ?_, ?_⟩
  · rcases List.mem_cons.mp hb with e | hb
    · exact .inl e
    · exact .inr ⟨_, by rw [List.mem_singleton.mp hb]; exact List.mem_singleton.mpr rfl⟩
  · rw [List.mem_singleton.mp hp]
    exact ⟨Nat.ne_of_lt hlt, hlc⟩
  · exact fun hm => absurd F.ns.lt (hm ▸ Nat.lt_irrefl _)
  · obtain ⟨⟨o, h1, _⟩, _⟩ := hs
    exact ⟨o, h1⟩
  · exact absurd (Heap.lt_size (N p (.tail _ (.tail _ hp))).1) (hI ▸ Nat.lt_irrefl _)
  · rintro i v m₁ news₁ h tk o oc hi hv hJ hne hoc F₁ N₁
    exact turn i v m₁ news₁ h tk _ o oc hv hJ hne hcI hoc F₁ N₁
  · intro h' tk m' news' oc v hoc F' N' hne hJ
    exact done m' news' h' tk oc v hJ hoc hne F' N'
end
open PySem PySem.W PyProof.Rows
set_option maxRecDepth 100000 in
set_option maxHeartbeats 8000000 in
open_top hd for PySem.Challenge.rw_no0415_01
end Mine
namespace Mine
set_option rowWalk.seconds 0
theorem topOff : True := by
  w_top off
  exact True.intro
end Mine
set_option rowWalk.seconds 0
namespace Mine
open PySem PySem.W PyProof.Rows
noncomputable abbrev VW := Mine.hd.view_39
structure IK where
  u : Array UInt8
  q : Nat
  k : Nat
def tagL (q k : Nat) : List Int := [(k : Int), ((q % 256 : Nat) : Int), ((q / 256 % 256 : Nat) : Int), ((q / 65536 % 256 : Nat) : Int), ((q / 16777216 % 256 : Nat) : Int), ((q / 4294967296 % 256 : Nat) : Int), ((q / 1099511627776 % 256 : Nat) : Int), ((q / 281474976710656 % 256 : Nat) : Int)]
def IK.ints (e : IK) : List Int := KBw.bInts e.u ++ tagL e.q e.k
def ikb (e : IK) : Array UInt8 := byteArr e.ints
structure IK.Ok (e : IK) : Prop where
  q : e.q < 72057594037927936
  k : e.k < 256
  u : e.u.size ≤ 1000
def IK.tag (e : IK) : Int := (e.q : Int) * 256 + e.k
theorem ints_in (e : IK) (h : e.Ok) : KBa.In e.ints := by
  intro n hn
  rcases List.mem_append.mp hn with h1 | h1
  · exact KBw.ints_in h1
  · have := h.k
    simp only [tagL, List.mem_cons, List.not_mem_nil, or_false] at h1
    omega
theorem bInts_ikb (e : IK) (h : e.Ok) : KBw.bInts (ikb e) = e.ints := KBa.ints_make (ints_in e h)
theorem ints_len (e : IK) : e.ints.length = e.u.size + 8 := by simp [IK.ints, tagL, KBw.bInts]
theorem ints_at (e : IK) (j : Nat) : e.ints.getD (e.u.size + j) 0 = (tagL e.q e.k).getD j 0 := by
  unfold IK.ints
  have : (KBw.bInts e.u).length = e.u.size := by simp [KBw.bInts]
  rw [List.getD_eq_getElem?_getD, List.getD_eq_getElem?_getD, List.getElem?_append_right (by omega), this]
  congr 2; omega
/-- the tag's octets, put together -/
theorem tag_sum (e : IK) (h : e.Ok) : (tagL e.q e.k).getD 0 0 + (tagL e.q e.k).getD 1 0 * 256 + (tagL e.q e.k).getD 2 0 * 65536 + (tagL e.q e.k).getD 3 0 * 16777216 + ((tagL e.q e.k).getD 4 0 + (tagL e.q e.k).getD 5 0 * 256 + (tagL e.q e.k).getD 6 0 * 65536 + (tagL e.q e.k).getD 7 0 * 16777216) * 4294967296 = e.tag := by
  have := h.q
  simp only [tagL, List.getD_cons_zero, List.getD_cons_succ, IK.tag]
  omega
def cmpI (a b : IK) : Int := if ltB a.u b.u then -1 else if ltB b.u a.u then 1 else if b.tag < a.tag then -1 else if a.tag < b.tag then 1 else 0
/-- the order's object and what hangs on it -/
def OrdIn (rest : Led) (o : Addr) : Prop := ∃ (duo uo dd : Addr) (h : Int) (t : Tok) (n : Nat), (o, instObj 284 duo) ∈ rest ∧ (duo, dictOf [⟨h, .str "user_order" t, .ref uo⟩] n) ∈ rest ∧ (uo, instObj 230 dd) ∈ rest ∧ (dd, dictOf [] 0) ∈ rest
local macro_rules | `(tactic| walk_at "compareOp Lt bytes bytes") => `(tactic| with_reducible refine Mine.lt_bytes ?_)
local macro_rules | `(tactic| walk_at "compareOp Gt bytes bytes") => `(tactic| with_reducible refine Mine.gt_bytes ?_)
local macro_rules | `(tactic| walk_at "compareOp GtE bytes bytes") => `(tactic| with_reducible refine Mine.ge_bytes ?_)
local macro_rules | `(tactic| walk_at "call type:bytes") => `(tactic| ((with_reducible show wpAny _ _ (call (Value.type "bytes") [Value.bytes _ _]) _ _ _); refine Mine.call_bytes_bytes ?_))
local macro_rules | `(tactic| walk_at "binaryOp LShift int int") => `(tactic| ((first | (with_reducible refine Mine.shl8 ?h0 ?h1 ?_) | (with_reducible refine Mine.shl16 ?h0 ?h1 ?_) | (with_reducible refine Mine.shl24 ?h0 ?h1 ?_) | (with_reducible refine Mine.shl32 ?h0 ?h1 ?_)); (case h0 => omega); (case h1 => omega)))
local macro_rules | `(tactic| walk_at "binaryOp BitOr int int") => `(tactic| ((first | (with_reducible refine Mine.or8 ?h0 ?h1 ?h2 ?_) | (with_reducible refine Mine.or16 ?h0 ?h1 ?h2 ?_) | (with_reducible refine Mine.or24 ?h0 ?h1 ?h2 ?_) | (with_reducible refine Mine.or32 ?h0 ?h1 ?h2 ?_)); (case h0 => omega); (case h1 => omega); (case h2 => omega)))
-- how a walk of a def begins
local macro_rules | `(tactic| walk_at "mine begin") => `(tactic| ((rename Frag.In _ _ => X1); revert X1; k_fill; intro X1; refine wpAny_call ?_; k_dflt ktr_enter))
-- the premises that every rule of ours has
local macro_rules | `(tactic| walk_at "mine std") => `(tactic| ((case B => k_asm); (case F => k_asm); (case X => k_asm); (case N => k_asm); (case T => k_asm); (case hk => first | exact rfl | assumption); (case hd => ktr_room); (case hu => ktr_units)))
section
variable {w : World} {dp un : Nat} {gd : Option (List Code)} {cn : Str} {cs : Scope} {a : Addr} {ccd : Value} {cl : List (Str × Addr)} {outer : List Env} {A₀ : Around} {base h₀ : Heap} {L : Addr} {m mg mb : Str → Option Value} {mean : ExcName → Option Value} {s : Shared} {rest : Led}
  {Q E : Value → Shared → Prop}
set_option maxRecDepth 100000 in
set_option maxHeartbeats 8000000 in
theorem user_of_r {e : IK} {t0 : Tok} (B : Below A₀ base outer h₀) (F : Fr h₀ L s.heap m) (X : (Mine.hd.heap_39 w.params).In h₀) (N : News h₀ L s.heap rest) (T : Top VW (looseW VW []) mean mg mb h₀) (hk : cs.kind = .function) (hd : dp + 1 < recursionLimit) (hu : un + 8 < cLine)
    (he : e.Ok) (k : ∀ t h' tk', Fr h₀ L h' m → News h₀ L h' rest → Q (.bytes e.u t) { s with heap := h', toks := tk' }) :
    wpAny (model Challenge.rw_no0415_01.row.prog w) (ktrTop dp un gd cn cs L a ccd cl outer) (call (.ref 150) [.bytes (ikb e) t0]) Q E s := by
  have hks := bInts_ikb e he
  have hl := ints_len e
  have hl2 := he.u
  have fin : ∀ c : Array UInt8, KBw.bInts c = (e.ints.drop ((none : Option Int).elim 0 (clipAt e.ints.length))).take ((some ((e.ints.length : Int) - 8)).elim e.ints.length (clipAt e.ints.length) - (none : Option Int).elim 0 (clipAt e.ints.length)) → c = e.u := by
    intro c hc
    apply bInts_inj
    rw [hc]
    have h3 : clipAt e.ints.length ((e.ints.length : Int) - 8) = e.u.size := by
      rw [hl]
      show clipAt (e.u.size + 8) (((e.u.size + 8 : Nat) : Int) - 8) = _
      have : (((e.u.size + 8 : Nat) : Int) - 8) = ((e.u.size : Nat) : Int) := by omega
      rw [this, clipAt_nat]; omega
    show ((e.ints.drop 0).take (clipAt e.ints.length ((e.ints.length : Int) - 8) - 0)) = _
    rw [h3, List.drop_zero, Nat.sub_zero]
    unfold IK.ints
    rw [List.take_append_of_le_length (by simp [KBw.bInts]), List.take_of_length_le (by simp [KBw.bInts])]
  generalize hb : ikb e = b at *
  generalize hi : e.ints = ks at *
  walk_at "mine begin"
  k_steps
  all_goals (have hc := fin _ (by assumption); rw [hc]; exact k _ _ _ (by k_asm) (by k_asm))
set_option maxRecDepth 100000 in
set_option maxHeartbeats 8000000 in
theorem rd32_r {b : Array UInt8} {t0 t1: Tok} {i : Int}  {ks : List Int} (B : Below A₀ base outer h₀) (F : Fr h₀ L s.heap m) (X : (Mine.hd.heap_39 w.params).In h₀) (N : News h₀ L s.heap rest) (T : Top VW (looseW VW []) mean mg mb h₀) (hk : cs.kind = .function) (hd : dp + 1 < recursionLimit) (hu : un + 8 < cLine)
    (hks : KBw.bInts b = ks) (hsz : 0 ≤ i) (hsz2 : ks.length ≤ 2000) (hsz3 : i + 4 ≤ ks.length)
    (k : ∀ t h' tk', Fr h₀ L h' m → News h₀ L h' rest → 0 ≤ ks.getD i.toNat 0 + ks.getD (i + 1).toNat 0 * 256 + ks.getD (i + 2).toNat 0 * 65536 + ks.getD (i + 3).toNat 0 * 16777216 → ks.getD i.toNat 0 + ks.getD (i + 1).toNat 0 * 256 + ks.getD (i + 2).toNat 0 * 65536 + ks.getD (i + 3).toNat 0 * 16777216 < 4294967296 →
       Q (.int (ks.getD i.toNat 0 + ks.getD (i + 1).toNat 0 * 256 + ks.getD (i + 2).toNat 0 * 65536 + ks.getD (i + 3).toNat 0 * 16777216) t) { s with heap := h', toks := tk' }) :
    wpAny (model Challenge.rw_no0415_01.row.prog w) (ktrTop dp un gd cn cs L a ccd cl outer) (call (.ref 115) [.bytes b t0, .int i t1]) Q E s := by
  walk_at "mine begin"
  k_steps
  all_goals (first | exact k _ _ _ (by k_asm) (by k_asm) (by omega) (by omega))
local macro_rules | `(tactic| walk_at "call ref") => `(tactic| ((with_reducible show wpAny _ _ (call (Value.ref 115) _) _ _ _); k_dflt (refine' Mine.rd32_r ?B ?F ?X ?N ?T ?hk ?hd ?hu ?s1 ?s2 ?s3 ?s4 ?_; walk_at "mine std"; (case s1 => assumption); (case s2 => omega); (case s3 => omega); (case s4 => omega); k_whole; intro t' h' tk' F' N' b1' b2'; (try k_sweep))))
local macro_rules | `(tactic| walk_at "call ref") => `(tactic| ((with_reducible show wpAny _ _ (call (Value.ref 150) _) _ _ _); k_dflt (refine' Mine.user_of_r ?B ?F ?X ?N ?T ?hk ?hd ?hu ?s1 ?_; walk_at "mine std"; (case s1 => assumption); k_whole; intro t' h' tk' F' N'; (try k_sweep))))
set_option maxRecDepth 100000 in
set_option maxHeartbeats 8000000 in
theorem rd64_r {b : Array UInt8} {t0 t1: Tok} {i : Int}  {ks : List Int} (B : Below A₀ base outer h₀) (F : Fr h₀ L s.heap m) (X : (Mine.hd.heap_39 w.params).In h₀) (N : News h₀ L s.heap rest) (T : Top VW (looseW VW []) mean mg mb h₀) (hk : cs.kind = .function) (hd : dp + 2 < recursionLimit) (hu : un + 16 < cLine)
    (hks : KBw.bInts b = ks) (hsz : 0 ≤ i) (hsz2 : ks.length ≤ 2000) (hsz3 : i + 8 ≤ ks.length)
    (k : ∀ t h' tk', Fr h₀ L h' m → News h₀ L h' rest → 
       Q (.int (ks.getD i.toNat 0 + ks.getD (i + 1).toNat 0 * 256 + ks.getD (i + 2).toNat 0 * 65536 + ks.getD (i + 3).toNat 0 * 16777216 + (ks.getD (i + 4).toNat 0 + ks.getD (i + 4 + 1).toNat 0 * 256 + ks.getD (i + 4 + 2).toNat 0 * 65536 + ks.getD (i + 4 + 3).toNat 0 * 16777216) * 4294967296) t) { s with heap := h', toks := tk' }) :
    wpAny (model Challenge.rw_no0415_01.row.prog w) (ktrTop dp un gd cn cs L a ccd cl outer) (call (.ref 122) [.bytes b t0, .int i t1]) Q E s := by
  walk_at "mine begin"
  k_steps
  all_goals (first | exact k _ _ _ (by k_asm) (by k_asm))
local macro_rules | `(tactic| walk_at "call ref") => `(tactic| ((with_reducible show wpAny _ _ (call (Value.ref 122) _) _ _ _); k_dflt (refine' Mine.rd64_r ?B ?F ?X ?N ?T ?hk ?hd ?hu ?s1 ?s2 ?s3 ?s4 ?_; walk_at "mine std"; (case s1 => assumption); (case s2 => omega); (case s3 => omega); (case s4 => omega); k_whole; intro t' h' tk' F' N'; (try k_sweep))))
set_option maxRecDepth 100000 in
set_option maxHeartbeats 8000000 in
theorem tag_of_r {e : IK} {t0 : Tok} (B : Below A₀ base outer h₀) (F : Fr h₀ L s.heap m) (X : (Mine.hd.heap_39 w.params).In h₀) (N : News h₀ L s.heap rest) (T : Top VW (looseW VW []) mean mg mb h₀) (hk : cs.kind = .function) (hd : dp + 3 < recursionLimit) (hu : un + 24 < cLine)
    (he : e.Ok) (k : ∀ t h' tk', Fr h₀ L h' m → News h₀ L h' rest → Q (.int e.tag t) { s with heap := h', toks := tk' }) :
    wpAny (model Challenge.rw_no0415_01.row.prog w) (ktrTop dp un gd cn cs L a ccd cl outer) (call (.ref 157) [.bytes (ikb e) t0]) Q E s := by
  have hks := bInts_ikb e he
  have hl := ints_len e
  have hl2 := he.u
  have fin : ∀ i : Int, i = (e.ints.length : Int) - 8 → e.ints.getD i.toNat 0 + e.ints.getD (i + 1).toNat 0 * 256 + e.ints.getD (i + 2).toNat 0 * 65536 + e.ints.getD (i + 3).toNat 0 * 16777216 + (e.ints.getD (i + 4).toNat 0 + e.ints.getD (i + 4 + 1).toNat 0 * 256 + e.ints.getD (i + 4 + 2).toNat 0 * 65536 + e.ints.getD (i + 4 + 3).toNat 0 * 16777216) * 4294967296 = e.tag := by
    intro i hi
    have hi2 : i = (e.u.size : Int) := by omega
    subst hi2
    have e0 : ((e.u.size : Int)).toNat = e.u.size + 0 := by omega
    have e1 : ((e.u.size : Int) + 1).toNat = e.u.size + 1 := by omega
    have e2 : ((e.u.size : Int) + 2).toNat = e.u.size + 2 := by omega
    have e3 : ((e.u.size : Int) + 3).toNat = e.u.size + 3 := by omega
    have e4 : ((e.u.size : Int) + 4).toNat = e.u.size + 4 := by omega
    have e5 : ((e.u.size : Int) + 4 + 1).toNat = e.u.size + 5 := by omega
    have e6 : ((e.u.size : Int) + 4 + 2).toNat = e.u.size + 6 := by omega
    have e7 : ((e.u.size : Int) + 4 + 3).toNat = e.u.size + 7 := by omega
    rw [e0, e1, e2, e3, e4, e5, e6, e7, ints_at, ints_at, ints_at, ints_at, ints_at, ints_at, ints_at, ints_at]
    exact tag_sum e he
  generalize hb : ikb e = b at *
  generalize hi : e.ints = ks at *
  walk_at "mine begin"
  k_steps
  all_goals (have hc := fin _ rfl; rw [hc]; exact k _ _ _ (by k_asm) (by k_asm))
set_option maxRecDepth 100000 in
set_option maxHeartbeats 8000000 in
theorem ocmp_r {o : Addr} {x y : Array UInt8} {t0 t1 : Tok} (B : Below A₀ base outer h₀) (F : Fr h₀ L s.heap m) (X : (Mine.hd.heap_39 w.params).In h₀) (N : News h₀ L s.heap rest) (T : Top VW (looseW VW []) mean mg mb h₀) (hk : cs.kind = .function) (hd : dp + 1 < recursionLimit) (hu : un + 8 < cLine)
    (k : ∀ t h' tk', Fr h₀ L h' m → News h₀ L h' rest → Q (.int (if ltB x y then -1 else if ltB y x then 1 else 0) t) { s with heap := h', toks := tk' }) :
    wpAny (model Challenge.rw_no0415_01.row.prog w) (ktrTop dp un gd cn cs L a ccd cl outer) (call (.ref 171) [.ref o, .bytes x t0, .bytes y t1]) Q E s := by
  walk_at "mine begin"
  k_steps
  all_goals (first
    | (rw [if_pos (by assumption)] at k; exact k _ _ _ (by k_asm) (by k_asm))
    | (rw [if_neg (by simp only [Bool.not_eq_true]; assumption), if_pos (by assumption)] at k; exact k _ _ _ (by k_asm) (by k_asm))
    | (rw [if_neg (by simp only [Bool.not_eq_true]; assumption), if_neg (by simp only [Bool.not_eq_true]; assumption)] at k; exact k _ _ _ (by k_asm) (by k_asm))
   )
local macro_rules | `(tactic| walk_at "call ref") => `(tactic| ((with_reducible show wpAny _ _ (call (Value.ref 157) _) _ _ _); k_dflt (refine' Mine.tag_of_r ?B ?F ?X ?N ?T ?hk ?hd ?hu ?s1 ?_; walk_at "mine std"; (case s1 => assumption); k_whole; intro t' h' tk' F' N'; (try k_sweep))))
local macro_rules | `(tactic| walk_at "call ref") => `(tactic| ((with_reducible show wpAny _ _ (call (Value.ref 171) _) _ _ _); k_dflt (refine' Mine.ocmp_r ?B ?F ?X ?N ?T ?hk ?hd ?hu ?_; walk_at "mine std"; k_whole; intro t' h' tk' F' N'; (try k_sweep))))
set_option maxRecDepth 100000 in
set_option maxHeartbeats 8000000 in
theorem icmp_r {o : Addr} {e f : IK} {t0 t1 : Tok} (B : Below A₀ base outer h₀) (F : Fr h₀ L s.heap m) (X : (Mine.hd.heap_39 w.params).In h₀) (N : News h₀ L s.heap rest) (T : Top VW (looseW VW []) mean mg mb h₀) (hk : cs.kind = .function) (hd : dp + 4 < recursionLimit) (hu : un + 32 < cLine)
    (he : e.Ok) (hf : f.Ok) (ho : OrdIn rest o) (k : ∀ t h' tk', Fr h₀ L h' m → News h₀ L h' rest → Q (.int (cmpI e f) t) { s with heap := h', toks := tk' }) :
    wpAny (model Challenge.rw_no0415_01.row.prog w) (ktrTop dp un gd cn cs L a ccd cl outer) (call (.ref 253) [.ref o, .bytes (ikb e) t0, .bytes (ikb f) t1]) Q E s := by
  obtain ⟨duo, uo, dd, hh, tt, n, m1, m2, m3, m4⟩ := ho
  walk_at "mine begin"
  k_steps
  all_goals (refine cb_retI k ?_ (by k_asm) (by k_asm))
  all_goals (unfold cmpI; clear k; (repeat' split) <;> simp_all <;> omega)
end
end Mine
namespace Mine
open PySem PySem.W PyProof.Rows
set_option hygiene false in
local macro_rules | `(tactic| walk_at "compareOp Lt bytes bytes") => `(tactic| with_reducible refine Mine.lt_bytes ?_)
set_option hygiene false in
local macro_rules | `(tactic| walk_at "compareOp Gt bytes bytes") => `(tactic| with_reducible refine Mine.gt_bytes ?_)
set_option hygiene false in
local macro_rules | `(tactic| walk_at "compareOp GtE bytes bytes") => `(tactic| with_reducible refine Mine.ge_bytes ?_)
set_option hygiene false in
local macro_rules | `(tactic| walk_at "call type:bytes") => `(tactic| ((with_reducible show wpAny _ _ (call (Value.type "bytes") [Value.bytes _ _]) _ _ _); refine Mine.call_bytes_bytes ?_))
set_option hygiene false in
local macro_rules | `(tactic| walk_at "binaryOp LShift int int") => `(tactic| ((first | (with_reducible refine Mine.shl8 ?h0 ?h1 ?_) | (with_reducible refine Mine.shl16 ?h0 ?h1 ?_) | (with_reducible refine Mine.shl24 ?h0 ?h1 ?_) | (with_reducible refine Mine.shl32 ?h0 ?h1 ?_)); (case h0 => omega); (case h1 => omega)))
set_option hygiene false in
local macro_rules | `(tactic| walk_at "binaryOp BitOr int int") => `(tactic| ((first | (with_reducible refine Mine.or8 ?h0 ?h1 ?h2 ?_) | (with_reducible refine Mine.or16 ?h0 ?h1 ?h2 ?_) | (with_reducible refine Mine.or24 ?h0 ?h1 ?h2 ?_) | (with_reducible refine Mine.or32 ?h0 ?h1 ?h2 ?_)); (case h0 => omega); (case h1 => omega); (case h2 => omega)))
set_option hygiene false in
local macro_rules | `(tactic| k_room) => `(tactic| ktr_room)
set_option hygiene false in
local macro_rules | `(tactic| k_units) => `(tactic| ktr_units)
set_option hygiene false in
local macro_rules | `(tactic| k_all) => `(tactic| assumption)
set_option hygiene false in
local macro_rules | `(tactic| k_mem) => `(tactic| assumption)
set_option hygiene false in
local macro_rules | `(tactic| walk_at "mine begin") => `(tactic| ((rename Frag.In _ _ => X1); revert X1; k_fill; intro X1; refine wpAny_call ?_; k_dflt ktr_enter))
set_option hygiene false in
local macro_rules | `(tactic| walk_at "mine std") => `(tactic| ((case B => k_asm); (case F => k_asm); (case X => k_asm); (case N => k_asm); (case T => k_asm); (case hk => first | exact rfl | assumption); (case hd => ktr_room); (case hu => ktr_units)))
set_option hygiene false in
local macro_rules | `(tactic| walk_at "mine sub") => `(tactic| (intro pp hpp; repeat (first | exact hpp | refine List.mem_cons_of_mem _ ?_)))
set_option hygiene false in
local macro_rules | `(tactic| walk_at "mine steps") => `(tactic| repeat' (first
  | ((fail_if_success (with_reducible show wpAny _ _ (exec (PySem.Stmt.While _ _ _ _) _) _ _ _)); (fail_if_success (with_reducible show wpAny _ _ (pyIter _) _ _ _));
     (first | (k_unfold; (try dsimp only)) | walk1 | (dsimp only; walk1) | (leave1; walk_say "STEP leave1"; (try dsimp only)) | fail "no step"))))
set_option hygiene false in
local macro_rules | `(tactic| walk_at "subscriptTail") => `(tactic| ((with_reducible show wpAny _ _ (subscriptTail _ _ (Value.ref _) (Value.int _ _)) _ _ _); k_dflt (refine' Mine.item_list ?N ?m ?a ?b ?x ?_; (case N => k_asm); (case m => k_mem); (case a => omega); (case b => omega); (case x => assumption); k_whole)))
set_option hygiene false in
local macro_rules | `(tactic| walk_at "subscriptTail") => `(tactic| ((with_reducible show wpAny _ _ (subscriptTail _ _ (Value.ref _) (Value.int _ _)) _ _ _); k_dflt (refine' Mine.item_tup ?N ?m ?a ?b ?x ?_; (case N => k_asm); (case m => k_mem); (case a => omega); (case b => omega); (case x => first | exact rfl | assumption); k_whole)))
set_option hygiene false in
local macro_rules | `(tactic| walk_at "eval Name") => `(tactic| (k_dflt (refine' nameX_L ?F ?v ?_ ?a ?b; (case b => rfl); (case F => k_asm); (case a => rfl); (case v => first | exact rfl | assumption); k_whole)))
set_option hygiene false in
local macro_rules | `(tactic| walk_at "call ref") => `(tactic| ((with_reducible show wpAny _ _ (call (Value.ref 115) _) _ _ _); k_dflt (refine' Mine.rd32_r ?B ?F ?X ?N ?T ?hk ?hd ?hu ?s1 ?s2 ?s3 ?s4 ?_; walk_at "mine std"; (case s1 => assumption); (case s2 => omega); (case s3 => omega); (case s4 => omega); k_whole; intro t' h' tk' F' N' b1' b2'; (try k_sweep))))
set_option hygiene false in
local macro_rules | `(tactic| walk_at "call ref") => `(tactic| ((with_reducible show wpAny _ _ (call (Value.ref 122) _) _ _ _); k_dflt (refine' Mine.rd64_r ?B ?F ?X ?N ?T ?hk ?hd ?hu ?s1 ?s2 ?s3 ?s4 ?_; walk_at "mine std"; (case s1 => assumption); (case s2 => omega); (case s3 => omega); (case s4 => omega); k_whole; intro t' h' tk' F' N'; (try k_sweep))))
set_option hygiene false in
local macro_rules | `(tactic| walk_at "call ref") => `(tactic| ((with_reducible show wpAny _ _ (call (Value.ref 150) _) _ _ _); k_dflt (refine' Mine.user_of_r ?B ?F ?X ?N ?T ?hk ?hd ?hu ?s1 ?_; walk_at "mine std"; (case s1 => assumption); k_whole; intro t' h' tk' F' N'; (try k_sweep))))
set_option hygiene false in
local macro_rules | `(tactic| walk_at "call ref") => `(tactic| ((with_reducible show wpAny _ _ (call (Value.ref 157) _) _ _ _); k_dflt (refine' Mine.tag_of_r ?B ?F ?X ?N ?T ?hk ?hd ?hu ?s1 ?_; walk_at "mine std"; (case s1 => assumption); k_whole; intro t' h' tk' F' N'; (try k_sweep))))
set_option hygiene false in
local macro_rules | `(tactic| walk_at "call ref") => `(tactic| ((with_reducible show wpAny _ _ (call (Value.ref 171) _) _ _ _); k_dflt (refine' Mine.ocmp_r ?B ?F ?X ?N ?T ?hk ?hd ?hu  ?_; walk_at "mine std"; k_whole; intro t' h' tk' F' N'; (try k_sweep))))
set_option hygiene false in
local macro_rules | `(tactic| walk_at "call ref") => `(tactic| ((with_reducible show wpAny _ _ (call (Value.ref 253) _) _ _ _); k_dflt (refine' Mine.icmp_r ?B ?F ?X ?N ?T ?hk ?hd ?hu ?s1 ?s2 ?s3 ?_; walk_at "mine std"; (case s1 => assumption); (case s2 => assumption); (case s3 => first | assumption | (refine' OrdIn.mono ?oo ?os; (case oo => assumption); (case os => walk_at "mine sub"))); k_whole; intro t' h' tk' F' N'; (try k_sweep))))
set_option hygiene false in
local macro_rules | `(tactic| walk_at "call ref") => `(tactic| ((with_reducible show wpAny _ _ (call (Value.ref 321) _) _ _ _); k_dflt (refine' Mine.lvalid_r ?B ?F ?X ?N ?T ?hk ?hd ?hu ?s1 ?_; walk_at "mine std"; (case s1 => assumption); k_whole; intro h' tk' F' N'; (try k_sweep))))
abbrev Row := IK × Array UInt8
abbrev tupObj (vs : List Value) (n : Nat) : Obj := { cls := .type "tuple", data := .seq vs.toArray n }
structure LP where
  h1 : Int
  h2 : Int
  h3 : Int
  t1 : Tok
  t2 : Tok
  t3 : Tok
abbrev LD (q : LP) (r o : Addr) (p : Int) (t : Tok) : Obj := dictOf [⟨q.h1, .str "rows" q.t1, .ref r⟩, ⟨q.h2, .str "order" q.t2, .ref o⟩, ⟨q.h3, .str "place" q.t3, .int p t⟩] 3
structure LeafIn (rest : Led) (c dx o r : Addr) (vs : Array Value) (n2 : Nat) (R : List Row) : Prop where
  inst : (c, instObj 380 dx) ∈ rest
  lst : (r, listOf vs n2) ∈ rest
  len : vs.size = R.length
  row : ∀ (i : Nat) (k : IK) (v : Array UInt8), R[i]? = some (k, v) → ∃ a t1 t2 n, vs[i]? = some (.ref a) ∧ (a, tupObj [.bytes (ikb k) t1, .bytes v t2] n) ∈ rest
  ok : ∀ x ∈ R, x.1.Ok
  small : R.length ≤ 1000
  ord : OrdIn rest o
theorem OrdIn.mono {rest rest' : Led} {o : Addr} (h : OrdIn rest o) (hs : ∀ p ∈ rest, p ∈ rest') : OrdIn rest' o := by
  obtain ⟨duo, uo, dd, hh, tt, n, m1, m2, m3, m4⟩ := h
  exact ⟨duo, uo, dd, hh, tt, n, hs _ m1, hs _ m2, hs _ m3, hs _ m4⟩
theorem ret_val {α : Type} {Q : α → Shared → Prop} {s : Shared} {v v' : α} (k : Q v s) (e : v' = v) : Q v' s := e ▸ k
theorem lt_of_get {R : List Row} {p : Int} {x : Row} (h0 : 0 ≤ p) (hx : R[p.toNat]? = some x) : p < R.length := by
  have := (List.getElem?_eq_some_iff.mp hx).1
  omega
section
variable {prog : Program} {w : World} {A : Around} {E : Value → Shared → Prop} {s : Shared} {h₀ : Heap} {L : Addr} {news : Led}
theorem item_list {value slice : Expr} {l : Addr} {items : Array Value} {n : Nat} {k : Int} {u : Tok} {v : Value} {Q : Value → Shared → Prop} (N : News h₀ L s.heap news) (hm : (l, listOf items n) ∈ news)
    (h0 : 0 ≤ k) (hf : k < 2 ^ 63) (hx : items[k.toNat]? = some v) (h : Q v s) (hs : subscripted slice false (.ref l) (.int k u) = operate [.ref l, .int k u] (getItem (.ref l) (.int k u)) := by with_unfolding_all rfl) :
    wpAny (model prog w) A (subscriptTail value slice (.ref l) (.int k u)) Q E s :=
  have hl := News.isList N hm
  tail_any hl.typeIs slot_list_getitem.lookup (wpAny_getItem_list hl h0 hf hx h) hs
end
section
variable {prog : Program} {w : World} {A : Around} {E : Value → Shared → Prop} {s : Shared} {h₀ : Heap} {L : Addr} {news : Led}
theorem item_tup {value slice : Expr} {l : Addr} {items : List Value} {n : Nat} {k : Int} {u : Tok} {v : Value} {Q : Value → Shared → Prop} (N : News h₀ L s.heap news) (hm : (l, tupObj items n) ∈ news)
    (h0 : 0 ≤ k) (hf : k < 2 ^ 63) (hx : items[k.toNat]? = some v) (h : Q v s) (hs : subscripted slice false (.ref l) (.int k u) = operate [.ref l, .int k u] (getItem (.ref l) (.int k u)) := by with_unfolding_all rfl) :
    wpAny (model prog w) A (subscriptTail value slice (.ref l) (.int k u)) Q E s := by
  have ht := News.isTup N hm
  have hlt := (List.getElem?_eq_some_iff.mp hx).1
  refine tail_any ht.typeIs slot_tuple_getitem.lookup (getItem_tuple ht (by omega) hf (j := k.toNat) (by simp [seqIndex?]; omega) (by simpa using hx) h) hs
end
section
variable {w : World} {dp un : Nat} {gd : Option (List Code)} {cn : Str} {cs : Scope} {a : Addr} {ccd : Value} {cl : List (Str × Addr)} {outer : List Env} {A₀ : Around} {base h₀ : Heap} {L : Addr} {m mg mb : Str → Option Value} {mean : ExcName → Option Value} {s : Shared} {rest : Led}
  {Q E : Value → Shared → Prop} {c dx o r : Addr} {vs : Array Value} {n2 : Nat} {R : List Row} {q : LP} {p : Int} {t : Tok}
set_option maxRecDepth 100000 in
set_option maxHeartbeats 8000000 in
theorem lvalid_r  (B : Below A₀ base outer h₀) (F : Fr h₀ L s.heap m) (X : (Mine.hd.heap_39 w.params).In h₀) (N : News h₀ L s.heap ((dx, LD q r o p t) :: rest)) (T : Top VW (looseW VW []) mean mg mb h₀) (hk : cs.kind = .function) (hd : dp + 1 < recursionLimit) (hu : un + 8 < cLine)
    (hl : LeafIn rest c dx o r vs n2 R) (k : ∀ h' tk', Fr h₀ L h' m → News h₀ L h' ((dx, LD q r o p t) :: rest) → Q (.bool (decide (0 ≤ p ∧ p < R.length))) { s with heap := h', toks := tk' }) :
    wpAny (model Challenge.rw_no0415_01.row.prog w) (ktrTop dp un gd cn cs L a ccd cl outer) (call (.ref 321) [.ref c]) Q E s := by
  have m1 := hl.inst
  have m2 := hl.lst
  have l1 := hl.len
  have l2 := hl.small
  walk_at "mine begin"
  walk_at "mine steps"
  all_goals (refine ret_val (k _ _ (by k_asm) (by k_asm)) ?_; congr 1; apply decide_eq_decide.mpr; omega)
set_option maxRecDepth 100000 in
set_option maxHeartbeats 8000000 in
theorem lkey_r {x : Row} (B : Below A₀ base outer h₀) (F : Fr h₀ L s.heap m) (X : (Mine.hd.heap_39 w.params).In h₀) (N : News h₀ L s.heap ((dx, LD q r o p t) :: rest)) (T : Top VW (looseW VW []) mean mg mb h₀) (hk : cs.kind = .function) (hd : dp + 3 < recursionLimit) (hu : un + 24 < cLine)
    (hl : LeafIn rest c dx o r vs n2 R) (h0 : 0 ≤ p) (hx : R[p.toNat]? = some x) (k : ∀ t' h' tk', Fr h₀ L h' m → News h₀ L h' ((dx, LD q r o p t) :: rest) → Q (.bytes (ikb x.1) t') { s with heap := h', toks := tk' }) :
    wpAny (model Challenge.rw_no0415_01.row.prog w) (ktrTop dp un gd cn cs L a ccd cl outer) (call (.ref 370) [.ref c]) Q E s := by
  have m1 := hl.inst
  have m2 := hl.lst
  have l1 := hl.len
  have l2 := hl.small
  have h1 : p < R.length := lt_of_get h0 hx
  obtain ⟨a, t1, t2, n, e1, e2⟩ := hl.row _ _ _ hx
  walk_at "mine begin"
  walk_at "mine steps"
  all_goals (exact k _ _ _ (by k_asm) (by k_asm))
set_option maxRecDepth 100000 in
set_option maxHeartbeats 8000000 in
theorem lvalue_r {x : Row} (B : Below A₀ base outer h₀) (F : Fr h₀ L s.heap m) (X : (Mine.hd.heap_39 w.params).In h₀) (N : News h₀ L s.heap ((dx, LD q r o p t) :: rest)) (T : Top VW (looseW VW []) mean mg mb h₀) (hk : cs.kind = .function) (hd : dp + 3 < recursionLimit) (hu : un + 24 < cLine)
    (hl : LeafIn rest c dx o r vs n2 R) (h0 : 0 ≤ p) (hx : R[p.toNat]? = some x) (k : ∀ t' h' tk', Fr h₀ L h' m → News h₀ L h' ((dx, LD q r o p t) :: rest) → Q (.bytes x.2 t') { s with heap := h', toks := tk' }) :
    wpAny (model Challenge.rw_no0415_01.row.prog w) (ktrTop dp un gd cn cs L a ccd cl outer) (call (.ref 377) [.ref c]) Q E s := by
  have m1 := hl.inst
  have m2 := hl.lst
  have l1 := hl.len
  have l2 := hl.small
  have h1 : p < R.length := lt_of_get h0 hx
  obtain ⟨a, t1, t2, n, e1, e2⟩ := hl.row _ _ _ hx
  walk_at "mine begin"
  walk_at "mine steps"
  all_goals (exact k _ _ _ (by k_asm) (by k_asm))
set_option maxRecDepth 100000 in
set_option maxHeartbeats 8000000 in
theorem lfirst_r  (B : Below A₀ base outer h₀) (F : Fr h₀ L s.heap m) (X : (Mine.hd.heap_39 w.params).In h₀) (N : News h₀ L s.heap ((dx, LD q r o p t) :: rest)) (T : Top VW (looseW VW []) mean mg mb h₀) (hk : cs.kind = .function) (hd : dp + 1 < recursionLimit) (hu : un + 8 < cLine)
    (hl : LeafIn rest c dx o r vs n2 R) (off : ∀ p ∈ rest, p.1 ≠ dx) (k : ∀ t' h' tk', Fr h₀ L h' m → News h₀ L h' ((dx, LD q r o 0 t') :: rest) → Q (.none) { s with heap := h', toks := tk' }) :
    wpAny (model Challenge.rw_no0415_01.row.prog w) (ktrTop dp un gd cn cs L a ccd cl outer) (call (.ref 335) [.ref c]) Q E s := by
  have m1 := hl.inst
  have m2 := hl.lst
  have l1 := hl.len
  have l2 := hl.small
  walk_at "mine begin"
  walk_at "mine steps"
  all_goals (exact k _ _ _ (by k_asm) (by k_asm))
set_option maxRecDepth 100000 in
set_option maxHeartbeats 8000000 in
theorem llast_r  (B : Below A₀ base outer h₀) (F : Fr h₀ L s.heap m) (X : (Mine.hd.heap_39 w.params).In h₀) (N : News h₀ L s.heap ((dx, LD q r o p t) :: rest)) (T : Top VW (looseW VW []) mean mg mb h₀) (hk : cs.kind = .function) (hd : dp + 1 < recursionLimit) (hu : un + 8 < cLine)
    (hl : LeafIn rest c dx o r vs n2 R) (off : ∀ p ∈ rest, p.1 ≠ dx) (k : ∀ t' h' tk', Fr h₀ L h' m → News h₀ L h' ((dx, LD q r o ((R.length : Int) - 1) t') :: rest) → Q (.none) { s with heap := h', toks := tk' }) :
    wpAny (model Challenge.rw_no0415_01.row.prog w) (ktrTop dp un gd cn cs L a ccd cl outer) (call (.ref 342) [.ref c]) Q E s := by
  have m1 := hl.inst
  have m2 := hl.lst
  have l1 := hl.len
  have l2 := hl.small
  walk_at "mine begin"
  walk_at "mine steps"
  all_goals (exact k _ _ _ (by k_asm) (by k_asm))
set_option maxRecDepth 100000 in
set_option maxHeartbeats 8000000 in
theorem lstep_r  (B : Below A₀ base outer h₀) (F : Fr h₀ L s.heap m) (X : (Mine.hd.heap_39 w.params).In h₀) (N : News h₀ L s.heap ((dx, LD q r o p t) :: rest)) (T : Top VW (looseW VW []) mean mg mb h₀) (hk : cs.kind = .function) (hd : dp + 3 < recursionLimit) (hu : un + 24 < cLine)
    (hl : LeafIn rest c dx o r vs n2 R) (off : ∀ p ∈ rest, p.1 ≠ dx) (h0 : 0 ≤ p) (h1 : p < R.length) (k : ∀ t' h' tk', Fr h₀ L h' m → News h₀ L h' ((dx, LD q r o (p + 1) t') :: rest) → Q (.none) { s with heap := h', toks := tk' }) :
    wpAny (model Challenge.rw_no0415_01.row.prog w) (ktrTop dp un gd cn cs L a ccd cl outer) (call (.ref 356) [.ref c]) Q E s := by
  have m1 := hl.inst
  have m2 := hl.lst
  have l1 := hl.len
  have l2 := hl.small
  walk_at "mine begin"
  walk_at "mine steps"
  all_goals (exact k _ _ _ (by k_asm) (by k_asm))
set_option maxRecDepth 100000 in
set_option maxHeartbeats 8000000 in
theorem lback_r  (B : Below A₀ base outer h₀) (F : Fr h₀ L s.heap m) (X : (Mine.hd.heap_39 w.params).In h₀) (N : News h₀ L s.heap ((dx, LD q r o p t) :: rest)) (T : Top VW (looseW VW []) mean mg mb h₀) (hk : cs.kind = .function) (hd : dp + 3 < recursionLimit) (hu : un + 24 < cLine)
    (hl : LeafIn rest c dx o r vs n2 R) (off : ∀ p ∈ rest, p.1 ≠ dx) (h0 : 0 ≤ p) (h1 : p < R.length) (k : ∀ t' h' tk', Fr h₀ L h' m → News h₀ L h' ((dx, LD q r o (p - 1) t') :: rest) → Q (.none) { s with heap := h', toks := tk' }) :
    wpAny (model Challenge.rw_no0415_01.row.prog w) (ktrTop dp un gd cn cs L a ccd cl outer) (call (.ref 363) [.ref c]) Q E s := by
  have m1 := hl.inst
  have m2 := hl.lst
  have l1 := hl.len
  have l2 := hl.small
  walk_at "mine begin"
  walk_at "mine steps"
  all_goals (exact k _ _ _ (by k_asm) (by k_asm))
set_option maxRecDepth 100000 in
set_option maxHeartbeats 8000000 in
theorem lseek_r {e : IK} {te : Tok} {i : Nat} (B : Below A₀ base outer h₀) (F : Fr h₀ L s.heap m) (X : (Mine.hd.heap_39 w.params).In h₀) (N : News h₀ L s.heap ((dx, LD q r o p t) :: rest)) (T : Top VW (looseW VW []) mean mg mb h₀) (hk : cs.kind = .function) (hd : dp + 6 < recursionLimit) (hu : un + 48 < cLine)
    (hl : LeafIn rest c dx o r vs n2 R) (off : ∀ p ∈ rest, p.1 ≠ dx) (he : e.Ok) (hi : i ≤ R.length) (hcut : ∀ (j : Nat) (x : Row), R[j]? = some x → (cmpI x.1 e < 0 ↔ j < i)) (k : ∀ t' h' tk', Fr h₀ L h' m → News h₀ L h' ((dx, LD q r o (i : Int) t') :: rest) → Q (.none) { s with heap := h', toks := tk' }) :
    wpAny (model Challenge.rw_no0415_01.row.prog w) (ktrTop dp un gd cn cs L a ccd cl outer) (call (.ref 349) [.ref c, .bytes (ikb e) te]) Q E s := by
  have m1 := hl.inst
  have m2 := hl.lst
  have l1 := hl.len
  have l2 := hl.small
  obtain ⟨duo, uo, dd, hh, tt, nn, o1, o2, o3, o4⟩ := id hl.ord
  have ord := hl.ord
  walk_at "mine begin"
  walk_at "mine steps"
  rename Fr _ _ _ _ => FF
  rename News _ _ _ _ => NN
  refine While_inv (fun n m₁ news₁ => news₁ = (dx, LD q r o p t) :: rest ∧ m₁ "self" = some (.ref c) ∧ m₁ "target" = some (.bytes (ikb e) te) ∧ ∃ (lo hi : Int) (tl th : Tok), m₁ "low" = some (.int lo tl) ∧ m₁ "high" = some (.int hi th) ∧ 0 ≤ lo ∧ lo ≤ i ∧ (i : Int) ≤ hi ∧ hi ≤ R.length ∧ (n : Int) = hi - lo) (n₀ := R.length) FF NN ⟨rfl, rfl, rfl, 0, R.length, _, _, rfl, rfl, by omega, by omega, by omega, by omega, by omega⟩ ?_
  rintro n m₁ news₁ h₁ tk₁ F₁ N₁ ⟨rfl, es, et, lo, hi, tl, th, el, eh, b1, b2, b3, b4, b5⟩
  clear FF NN
  by_cases hlt : lo < hi
  · have c1 : lo ≤ (lo + hi).fdiv 2 ∧ (lo + hi).fdiv 2 < hi := by
      rw [Int.fdiv_eq_ediv_of_nonneg _ (by decide)]; omega
    obtain ⟨x, hx⟩ : ∃ x, R[((lo + hi).fdiv 2).toNat]? = some x := ⟨_, List.getElem?_eq_getElem (by omega)⟩
    obtain ⟨am, t1, t2, nn, e1, e2⟩ := hl.row _ _ _ hx
    have hok : x.1.Ok := hl.ok _ (List.mem_of_getElem? hx)
    have hd := hcut _ _ hx
    walk_at "mine steps"
    · have hd2 := hd.mp (by assumption)
      rename Fr _ _ _ _ => FF
      rename News _ _ _ _ => NN
      exact WhileStep.intro (n' := (hi - ((lo + hi).fdiv 2 + 1)).toNat) FF NN (by omega) ⟨rfl, es, et, (lo + hi).fdiv 2 + 1, hi, _, _, rfl, eh, by omega, by omega, by omega, by omega, by omega⟩
    · have hd2 := mt hd.mpr (by assumption)
      rename Fr _ _ _ _ => FF
      rename News _ _ _ _ => NN
      exact WhileStep.intro (n' := ((lo + hi).fdiv 2 - lo).toNat) FF NN (by omega) ⟨rfl, es, et, lo, (lo + hi).fdiv 2, _, _, el, rfl, by omega, by omega, by omega, by omega, by omega⟩
  · have hlo : lo = (i : Int) := by omega
    subst hlo
    walk_at "mine steps"
    all_goals (exact k _ _ _ (by k_asm) (by k_asm))
end
end Mine
namespace Mine
open PySem PySem.W PyProof.Rows
/-- one child of a merge: its object, which class, its rows, its own part of the ledger, its place -/
structure KS where
  c : Addr
  kd : Bool
  R : List Row
  fp : Led
  st : Option Nat
def KS.key (k : KS) : Option IK := k.st.bind fun i => (k.R[i]?).map (·.1)
/-- the methods of both iterators -/
inductive MN | valid | key | value | first | last | seek | step | back
def MN.name : MN → Str
  | .valid => "valid" | .key => "key" | .value => "value" | .first => "seek_first" | .last => "seek_last" | .seek => "seek" | .step => "step" | .back => "back"
def adr : Bool → MN → Addr
  | false, .valid => 321 | false, .key => 370 | false, .value => 377 | false, .first => 335 | false, .last => 342 | false, .seek => 349 | false, .step => 356 | false, .back => 363
  | true, .valid => 426 | true, .key => 496 | true, .value => 503 | true, .first => 440 | true, .last => 447 | true, .seek => 454 | true, .step => 482 | true, .back => 489
def cls : Bool → Addr | false => 380 | true => 506
def Off (fp T : Led) : Prop := ∀ p ∈ fp, ∀ q ∈ T, q.1 ≠ p.1
/-- a call from any caller: its answer, its part of the ledger behind it -/
def Calls (w : World) (D : Nat) (f : Addr) (args : List Value) (fp rest : Led) (post : Value → Led → Prop) : Prop :=
  ∀ (dp un : Nat) (gd : Option (List Code)) (cn : Str) (cs : Scope) (a : Addr) (ccd : Value) (cl : List (Str × Addr)) (outer : List Env) (A₀ : Around) (base h₀ : Heap) (L : Addr) (m mg mb : Str → Option Value) (mean : ExcName → Option Value) (s : Shared) (Q E : Value → Shared → Prop),
    Below A₀ base outer h₀ → Fr h₀ L s.heap m → (Mine.hd.heap_39 w.params).In h₀ → News h₀ L s.heap (fp ++ rest) → Top VW (looseW VW []) mean mg mb h₀ → cs.kind = .function → dp + D < recursionLimit → un + 8 * D < cLine →
    (∀ r fp' h' tk', Fr h₀ L h' m → News h₀ L h' (fp' ++ rest) → post r fp' → Q r { s with heap := h', toks := tk' }) →
    wpAny (model Challenge.rw_no0415_01.row.prog w) (ktrTop dp un gd cn cs L a ccd cl outer) (call (.ref f) args) Q E s
def firstAt (R : List Row) : Option Nat := if R = [] then none else some 0
def lastAt (R : List Row) : Option Nat := if R = [] then none else some (R.length - 1)
/-- the first place at or behind a key -/
def seekAt (R : List Row) (e : IK) : Option Nat := let i := (R.takeWhile fun x => decide (cmpI x.1 e < 0)).length; if i < R.length then some i else none
def nextAt (R : List Row) (i : Nat) : Option Nat := if i + 1 < R.length then some (i + 1) else none
def prevAt (i : Nat) : Option Nat := if i = 0 then none else some (i - 1)
abbrev CurP := Led → Led → Addr → Bool → List Row → Option Nat → Prop
def sameAdr (a b : Led) : Prop := a.map (·.1) = b.map (·.1)
structure CurSpec (w : World) (D : Nat) (C : CurP) : Prop where
  mono : ∀ {fp rest rest' c kd R st}, C fp rest c kd R st → (∀ p ∈ rest, p ∈ rest') → C fp rest' c kd R st
  obj : ∀ {fp rest c kd R st}, C fp rest c kd R st → ∃ dx es n, (c, instObj (cls kd) dx) ∈ rest ∧ (dx, dictOf es n) ∈ fp ∧ ∀ mn : MN, getL mn.name es = some none
  ok : ∀ {fp rest c kd R st}, C fp rest c kd R st → ∀ x ∈ R, x.1.Ok
  size : ∀ {fp rest c kd R st}, C fp rest c kd R st → R.length ≤ 100000 ∧ ∀ i, st = some i → i < R.length
  valid : ∀ {fp rest E0 c kd R st}, C fp rest c kd R st → (∀ p ∈ rest, p ∈ E0) → Calls w D (adr kd .valid) [.ref c] fp E0 fun r fp' => r = .bool st.isSome ∧ fp' = fp
  key : ∀ {fp rest E0 c kd R i x}, C fp rest c kd R (some i) → R[i]? = some x → (∀ p ∈ rest, p ∈ E0) → Calls w D (adr kd .key) [.ref c] fp E0 fun r fp' => (∃ t, r = .bytes (ikb x.1) t) ∧ fp' = fp
  value : ∀ {fp rest E0 c kd R i x}, C fp rest c kd R (some i) → R[i]? = some x → (∀ p ∈ rest, p ∈ E0) → Calls w D (adr kd .value) [.ref c] fp E0 fun r fp' => (∃ t, r = .bytes x.2 t) ∧ fp' = fp
  first : ∀ {fp rest E0 c kd R st}, C fp rest c kd R st → (∀ p ∈ rest, p ∈ E0) → Off fp E0 → Calls w D (adr kd .first) [.ref c] fp E0 fun r fp' => r = .none ∧ sameAdr fp' fp ∧ C fp' rest c kd R (firstAt R)
  last : ∀ {fp rest E0 c kd R st}, C fp rest c kd R st → (∀ p ∈ rest, p ∈ E0) → Off fp E0 → Calls w D (adr kd .last) [.ref c] fp E0 fun r fp' => r = .none ∧ sameAdr fp' fp ∧ C fp' rest c kd R (lastAt R)
  seek : ∀ {fp rest E0 c kd R st} {e : IK} {t : Tok}, C fp rest c kd R st → (∀ p ∈ rest, p ∈ E0) → Off fp E0 → e.Ok → Calls w D (adr kd .seek) [.ref c, .bytes (ikb e) t] fp E0 fun r fp' => r = .none ∧ sameAdr fp' fp ∧ C fp' rest c kd R (seekAt R e)
  step : ∀ {fp rest E0 c kd R i}, C fp rest c kd R (some i) → (∀ p ∈ rest, p ∈ E0) → Off fp E0 → Calls w D (adr kd .step) [.ref c] fp E0 fun r fp' => r = .none ∧ sameAdr fp' fp ∧ C fp' rest c kd R (nextAt R i)
  back : ∀ {fp rest E0 c kd R i}, C fp rest c kd R (some i) → (∀ p ∈ rest, p ∈ E0) → Off fp E0 → Calls w D (adr kd .back) [.ref c] fp E0 fun r fp' => r = .none ∧ sameAdr fp' fp ∧ C fp' rest c kd R (prevAt i)
section
variable {w : World} {dp un D : Nat} {gd : Option (List Code)} {cn : Str} {cs : Scope} {a f : Addr} {ccd : Value} {cl : List (Str × Addr)} {outer : List Env} {A₀ : Around} {base h₀ : Heap} {L : Addr} {m mg mb : Str → Option Value} {mean : ExcName → Option Value} {s : Shared} {news fp rest : Led}
  {Q E : Value → Shared → Prop} {args : List Value} {post : Value → Led → Prop}
theorem Calls.use (H : Calls w D f args fp rest post) (B : Below A₀ base outer h₀) (F : Fr h₀ L s.heap m) (X : (Mine.hd.heap_39 w.params).In h₀) (N : News h₀ L s.heap news) (T : Top VW (looseW VW []) mean mg mb h₀) (hk : cs.kind = .function) (hd : dp + D < recursionLimit) (hu : un + 8 * D < cLine)
    (hs : ∀ p ∈ fp ++ rest, p ∈ news) (k : ∀ r fp' h' tk', Fr h₀ L h' m → News h₀ L h' (fp' ++ rest) → post r fp' → Q r { s with heap := h', toks := tk' }) :
    wpAny (model Challenge.rw_no0415_01.row.prog w) (ktrTop dp un gd cn cs L a ccd cl outer) (call (.ref f) args) Q E s :=
  H dp un gd cn cs a ccd cl outer A₀ base h₀ L m mg mb mean s Q E B F X (news_of N hs) T hk hd hu k
end
def kfps (ks : List KS) : Led := ks.flatMap (·.fp)
structure KidsIn (C : CurP) (rest : Led) (ks : List KS) : Prop where
  cur : ∀ k ∈ ks, C k.fp rest k.c k.kd k.R k.st
  off : ∀ k ∈ ks, Off k.fp rest
  apart : ks.Pairwise fun a b => Off a.fp b.fp
theorem Off.symm {a b : Led} (h : Off a b) : Off b a := fun p hp q hq e => h q hq p hp e.symm
theorem Off.adr {a a' b : Led} (h : Off a b) (e : sameAdr a' a) : Off a' b := fun p hp q hq => by
  have : p.1 ∈ a.map (·.1) := e ▸ List.mem_map_of_mem hp
  obtain ⟨p', hp', e'⟩ := List.mem_map.mp this
  rw [← e']; exact h p' hp' q hq
theorem mem_kfps {ks : List KS} {k : KS} (h : k ∈ ks) : ∀ p ∈ k.fp, p ∈ kfps ks := fun p hp => List.mem_flatMap.mpr ⟨k, h, hp⟩
theorem mem_kfps_set {ks : List KS} {i : Nat} {k' : KS} {p : Addr × Obj} (h : p ∈ kfps (ks.set i k')) : p ∈ k'.fp ∨ p ∈ kfps (ks.eraseIdx i) := by
  obtain ⟨k, hk, hp⟩ := List.mem_flatMap.mp h
  obtain ⟨j, hj⟩ := List.mem_iff_getElem?.mp hk
  by_cases e : i = j
  · subst e
    rw [List.getElem?_set] at hj
    simp only [if_true] at hj
    split at hj
    · cases hj; exact .inl hp
    · cases hj
  · rw [List.getElem?_set_ne e] at hj
    refine .inr (List.mem_flatMap.mpr ⟨k, ?_, hp⟩)
    rw [List.mem_iff_getElem?]
    by_cases hlt : j < i
    · exact ⟨j, by rw [List.getElem?_eraseIdx_of_lt hlt]; exact hj⟩
    · exact ⟨j - 1, by rw [List.getElem?_eraseIdx_of_ge (by omega), show j - 1 + 1 = j by omega]; exact hj⟩
theorem mem_erase_of {ks : List KS} {i : Nat} {p : Addr × Obj} (h : p ∈ kfps (ks.eraseIdx i)) : p ∈ kfps ks := by
  obtain ⟨k, hk, hp⟩ := List.mem_flatMap.mp h
  exact List.mem_flatMap.mpr ⟨k, List.mem_of_mem_eraseIdx hk, hp⟩
theorem off_erase {ks : List KS} {i : Nat} {k : KS} (ha : ks.Pairwise fun a b => Off a.fp b.fp) (hk : ks[i]? = some k) : Off k.fp (kfps (ks.eraseIdx i)) := by
  intro p hp q hq
  obtain ⟨k2, hk2, hq2⟩ := List.mem_flatMap.mp hq
  obtain ⟨j, hj⟩ := List.mem_iff_getElem?.mp hk2
  have hi := (List.getElem?_eq_some_iff.mp hk).1
  rw [List.pairwise_iff_getElem] at ha
  have ek := (List.getElem?_eq_some_iff.mp hk).2
  by_cases hlt : j < i
  · rw [List.getElem?_eraseIdx_of_lt hlt] at hj
    obtain ⟨hj1, hj2⟩ := List.getElem?_eq_some_iff.mp hj
    have := ha j i hj1 hi hlt
    rw [hj2, ek] at this
    exact fun e => this q hq2 p hp e.symm
  · rw [List.getElem?_eraseIdx_of_ge (by omega)] at hj
    obtain ⟨hj1, hj2⟩ := List.getElem?_eq_some_iff.mp hj
    have := ha i (j + 1) hi hj1 (by omega)
    rw [hj2, ek] at this
    exact this p hp q hq2
theorem KidsIn.set {C : CurP} {rest : Led} {ks : List KS} {i : Nat} {k : KS} {fp' : Led} {st' : Option Nat} (K : KidsIn C rest ks) (hk : ks[i]? = some k) (ha : sameAdr fp' k.fp) (hC : C fp' rest k.c k.kd k.R st') :
    KidsIn C rest (ks.set i { k with fp := fp', st := st' }) := by
  have hmem := List.mem_of_getElem? hk
  have hi := (List.getElem?_eq_some_iff.mp hk).1
  have ek := (List.getElem?_eq_some_iff.mp hk).2
  refine ⟨fun k2 h2 => ?_, fun k2 h2 => ?_, ?_⟩
  · rcases List.mem_or_eq_of_mem_set h2 with h | rfl
    · exact K.cur _ h
    · exact hC
  · rcases List.mem_or_eq_of_mem_set h2 with h | rfl
    · exact K.off _ h
    · exact (K.off _ hmem).adr ha
  · have ap := K.apart
    rw [List.pairwise_iff_getElem] at ap ⊢
    intro a b h1 h2 hab
    have h1' : a < ks.length := by simpa using h1
    have h2' : b < ks.length := by simpa using h2
    have := ap a b h1' h2' hab
    rw [List.getElem_set, List.getElem_set]
    split
    · rename_i e
      subst e
      rw [if_neg (by omega)]
      rw [ek] at this
      exact this.adr ha
    · split
      · rename_i e
        subst e
        rw [ek] at this
        exact (this.symm.adr ha).symm
      · exact this
section
variable {w : World} {dp un D : Nat} {gd : Option (List Code)} {cn : Str} {cs : Scope} {a f : Addr} {ccd : Value} {cl : List (Str × Addr)} {outer : List Env} {A₀ : Around} {base h₀ : Heap} {L : Addr} {m mg mb : Str → Option Value} {mean : ExcName → Option Value} {s : Shared} {news ext rest : Led}
  {Q E : Value → Shared → Prop} {args : List Value} {C : CurP} {ks : List KS} {i : Nat} {k : KS} {st' : Option Nat}
/-- a child of a merge is moved -/
theorem kid_call (K : KidsIn C rest ks) (hk : ks[i]? = some k)
    (H : ∀ {E0 : Led}, (∀ p ∈ rest, p ∈ E0) → Off k.fp E0 → Calls w D f args k.fp E0 fun r fp' => r = .none ∧ sameAdr fp' k.fp ∧ C fp' rest k.c k.kd k.R st')
    (B : Below A₀ base outer h₀) (F : Fr h₀ L s.heap m) (X : (Mine.hd.heap_39 w.params).In h₀) (N : News h₀ L s.heap news) (T : Top VW (looseW VW []) mean mg mb h₀) (hkd : cs.kind = .function) (hd : dp + D < recursionLimit) (hu : un + 8 * D < cLine)
    (hs : ∀ p ∈ ext ++ (kfps ks ++ rest), p ∈ news) (hext : Off k.fp ext)
    (kk : ∀ fp' h' tk', Fr h₀ L h' m → News h₀ L h' (ext ++ (kfps (ks.set i { k with fp := fp', st := st' }) ++ rest)) → sameAdr fp' k.fp → KidsIn C rest (ks.set i { k with fp := fp', st := st' }) → Q .none { s with heap := h', toks := tk' }) :
    wpAny (model Challenge.rw_no0415_01.row.prog w) (ktrTop dp un gd cn cs L a ccd cl outer) (call (.ref f) args) Q E s := by
  have hmem := List.mem_of_getElem? hk
  refine (H (E0 := ext ++ (kfps (ks.eraseIdx i) ++ rest)) (fun p hp => List.mem_append_right _ (List.mem_append_right _ hp)) ?_).use B F X N T hkd hd hu ?_ ?_
  · intro p hp q hq
    rcases List.mem_append.mp hq with h | h
    · exact hext p hp q h
    · rcases List.mem_append.mp h with h | h
      · exact off_erase K.apart hk p hp q h
      · exact K.off k hmem p hp q h
  · intro p hp
    rcases List.mem_append.mp hp with h | h
    · exact hs p (List.mem_append_right _ (List.mem_append_left _ (mem_kfps hmem p h)))
    · rcases List.mem_append.mp h with h | h
      · exact hs p (List.mem_append_left _ h)
      · rcases List.mem_append.mp h with h | h
        · exact hs p (List.mem_append_right _ (List.mem_append_left _ (mem_erase_of h)))
        · exact hs p (List.mem_append_right _ (List.mem_append_right _ h))
  · rintro r fp' h' tk' F' N' ⟨rfl, ha, hC⟩
    refine kk fp' h' tk' F' (news_of N' fun p hp => ?_) ha (K.set hk ha hC)
    rcases List.mem_append.mp hp with h | h
    · exact List.mem_append_right _ (List.mem_append_left _ h)
    · rcases List.mem_append.mp h with h | h
      · rcases mem_kfps_set h with h | h
        · exact List.mem_append_left _ h
        · exact List.mem_append_right _ (List.mem_append_right _ (List.mem_append_left _ h))
      · exact List.mem_append_right _ (List.mem_append_right _ (List.mem_append_right _ h))
end
section
variable {w : World} {dp un D : Nat} {gd : Option (List Code)} {cn : Str} {cs : Scope} {a f c : Addr} {ccd : Value} {cl : List (Str × Addr)} {outer : List Env} {A₀ A : Around} {base h₀ : Heap} {L : Addr} {m mg mb : Str → Option Value} {mean : ExcName → Option Value} {s : Shared} {news fp rest : Led}
  {E : Value → Shared → Prop} {C : CurP} {kd : Bool} {R : List Row} {st : Option Nat}
set_option maxRecDepth 100000 in
set_option maxHeartbeats 8000000 in
theorem gm_cur {pl : Sem Bool} {Q : Value × List Value → Shared → Prop} (S : CurSpec w D C) (hC : C fp rest c kd R st) (F : Fr h₀ L s.heap m) (X : (Mine.hd.heap_39 w.params).In h₀) (N : News h₀ L s.heap news) (hs : ∀ p ∈ fp ++ rest, p ∈ news) (mn : MN)
    (h : Q (.ref (adr kd mn), [.ref c]) s) : wpAny (model Challenge.rw_no0415_01.row.prog w) A (getMethod (.ref c) mn.name pl) Q E s := by
  obtain ⟨dx, es, n, h1, h2, h3⟩ := S.obj hC
  have I := InstAt.of_news N (hs _ (List.mem_append_right _ h1)) (hs _ (List.mem_append_left _ h2))
  have h3 := h3 mn
  revert X
  k_fill
  intro X
  cases kd <;> cases mn <;> exact method_inst F X I (by k_is) (by k_is) (by k_is) h3 h
theorem keep_cur (w : World) (kd : Bool) (mn : MN) : keepIn (Mine.hd.heap_39 w.params) (.ref (adr kd mn)) = true := by
  have : ∀ h : Heap, (Mine.hd.heap_39 w.params).In h → keepIn (Mine.hd.heap_39 w.params) (.ref (adr kd mn)) = true := by
    intro h
    cases kd <;> cases mn <;> (intro X; k_is)
  cases kd <;> cases mn <;> rfl
variable {Q : Value → Shared → Prop}
theorem use_valid (S : CurSpec w D C) (hC : C fp rest c kd R st) (B : Below A₀ base outer h₀) (F : Fr h₀ L s.heap m) (X : (Mine.hd.heap_39 w.params).In h₀) (N : News h₀ L s.heap news) (T : Top VW (looseW VW []) mean mg mb h₀) (hk : cs.kind = .function) (hd : dp + D < recursionLimit) (hu : un + 8 * D < cLine)
    (hs : ∀ p ∈ fp ++ rest, p ∈ news) (k : ∀ h' tk', Fr h₀ L h' m → News h₀ L h' news → Q (.bool st.isSome) { s with heap := h', toks := tk' }) :
    wpAny (model Challenge.rw_no0415_01.row.prog w) (ktrTop dp un gd cn cs L a ccd cl outer) (call (.ref (adr kd .valid)) [.ref c]) Q E s := by
  refine (S.valid hC (E0 := news) fun p hp => hs p (List.mem_append_right _ hp)).use B F X N T hk hd hu (fun p hp => (List.mem_append.mp hp).elim (fun q => hs p (List.mem_append_left _ q)) _root_.id) ?_
  rintro r fp' h' tk' F' N' ⟨rfl, rfl⟩
  exact k _ _ F' (news_of N' fun p hp => List.mem_append_right _ hp)
theorem use_key {i : Nat} {x : Row} (S : CurSpec w D C) (hC : C fp rest c kd R (some i)) (B : Below A₀ base outer h₀) (F : Fr h₀ L s.heap m) (X : (Mine.hd.heap_39 w.params).In h₀) (N : News h₀ L s.heap news) (T : Top VW (looseW VW []) mean mg mb h₀) (hk : cs.kind = .function) (hd : dp + D < recursionLimit) (hu : un + 8 * D < cLine)
    (hx : R[i]? = some x) (hs : ∀ p ∈ fp ++ rest, p ∈ news) (k : ∀ t h' tk', Fr h₀ L h' m → News h₀ L h' news → Q (.bytes (ikb x.1) t) { s with heap := h', toks := tk' }) :
    wpAny (model Challenge.rw_no0415_01.row.prog w) (ktrTop dp un gd cn cs L a ccd cl outer) (call (.ref (adr kd .key)) [.ref c]) Q E s := by
  refine (S.key hC hx (E0 := news) fun p hp => hs p (List.mem_append_right _ hp)).use B F X N T hk hd hu (fun p hp => (List.mem_append.mp hp).elim (fun q => hs p (List.mem_append_left _ q)) _root_.id) ?_
  rintro r fp' h' tk' F' N' ⟨⟨t, rfl⟩, rfl⟩
  exact k _ _ _ F' (news_of N' fun p hp => List.mem_append_right _ hp)
theorem use_value {i : Nat} {x : Row} (S : CurSpec w D C) (hC : C fp rest c kd R (some i)) (B : Below A₀ base outer h₀) (F : Fr h₀ L s.heap m) (X : (Mine.hd.heap_39 w.params).In h₀) (N : News h₀ L s.heap news) (T : Top VW (looseW VW []) mean mg mb h₀) (hk : cs.kind = .function) (hd : dp + D < recursionLimit) (hu : un + 8 * D < cLine)
    (hx : R[i]? = some x) (hs : ∀ p ∈ fp ++ rest, p ∈ news) (k : ∀ t h' tk', Fr h₀ L h' m → News h₀ L h' news → Q (.bytes x.2 t) { s with heap := h', toks := tk' }) :
    wpAny (model Challenge.rw_no0415_01.row.prog w) (ktrTop dp un gd cn cs L a ccd cl outer) (call (.ref (adr kd .value)) [.ref c]) Q E s := by
  refine (S.value hC hx (E0 := news) fun p hp => hs p (List.mem_append_right _ hp)).use B F X N T hk hd hu (fun p hp => (List.mem_append.mp hp).elim (fun q => hs p (List.mem_append_left _ q)) _root_.id) ?_
  rintro r fp' h' tk' F' N' ⟨⟨t, rfl⟩, rfl⟩
  exact k _ _ _ F' (news_of N' fun p hp => List.mem_append_right _ hp)
end
end Mine
namespace Mine
open PySem PySem.W PyProof.Rows
set_option hygiene false in
local macro_rules | `(tactic| walk_at "compareOp Lt bytes bytes") => `(tactic| with_reducible refine Mine.lt_bytes ?_)
set_option hygiene false in
local macro_rules | `(tactic| walk_at "compareOp Gt bytes bytes") => `(tactic| with_reducible refine Mine.gt_bytes ?_)
set_option hygiene false in
local macro_rules | `(tactic| walk_at "compareOp GtE bytes bytes") => `(tactic| with_reducible refine Mine.ge_bytes ?_)
set_option hygiene false in
local macro_rules | `(tactic| walk_at "call type:bytes") => `(tactic| ((with_reducible show wpAny _ _ (call (Value.type "bytes") [Value.bytes _ _]) _ _ _); refine Mine.call_bytes_bytes ?_))
set_option hygiene false in
local macro_rules | `(tactic| walk_at "binaryOp LShift int int") => `(tactic| ((first | (with_reducible refine Mine.shl8 ?h0 ?h1 ?_) | (with_reducible refine Mine.shl16 ?h0 ?h1 ?_) | (with_reducible refine Mine.shl24 ?h0 ?h1 ?_) | (with_reducible refine Mine.shl32 ?h0 ?h1 ?_)); (case h0 => omega); (case h1 => omega)))
set_option hygiene false in
local macro_rules | `(tactic| walk_at "binaryOp BitOr int int") => `(tactic| ((first | (with_reducible refine Mine.or8 ?h0 ?h1 ?h2 ?_) | (with_reducible refine Mine.or16 ?h0 ?h1 ?h2 ?_) | (with_reducible refine Mine.or24 ?h0 ?h1 ?h2 ?_) | (with_reducible refine Mine.or32 ?h0 ?h1 ?h2 ?_)); (case h0 => omega); (case h1 => omega); (case h2 => omega)))
set_option hygiene false in
local macro_rules | `(tactic| k_room) => `(tactic| ktr_room)
set_option hygiene false in
local macro_rules | `(tactic| k_units) => `(tactic| ktr_units)
set_option hygiene false in
local macro_rules | `(tactic| k_all) => `(tactic| assumption)
set_option hygiene false in
local macro_rules | `(tactic| k_mem) => `(tactic| assumption)
set_option hygiene false in
local macro_rules | `(tactic| walk_at "mine begin") => `(tactic| ((rename Frag.In _ _ => X1); revert X1; k_fill; intro X1; refine wpAny_call ?_; k_dflt ktr_enter))
set_option hygiene false in
local macro_rules | `(tactic| walk_at "mine std") => `(tactic| ((case B => k_asm); (case F => k_asm); (case X => k_asm); (case N => k_asm); (case T => k_asm); (case hk => first | exact rfl | assumption); (case hd => ktr_room); (case hu => ktr_units)))
set_option hygiene false in
local macro_rules | `(tactic| walk_at "mine sub") => `(tactic| (intro pp hpp; repeat (first | exact hpp | refine List.mem_cons_of_mem _ ?_)))
set_option hygiene false in
local macro_rules | `(tactic| walk_at "mine steps") => `(tactic| repeat' (first
  | ((fail_if_success (with_reducible show wpAny _ _ (exec (PySem.Stmt.While _ _ _ _) _) _ _ _)); (fail_if_success (with_reducible show wpAny _ _ (pyIter _) _ _ _)); (fail_if_success (with_reducible show wpAny _ _ (call (Value.ref (Mine.adr _ MN.first)) _) _ _ _)); (fail_if_success (with_reducible show wpAny _ _ (call (Value.ref (Mine.adr _ MN.last)) _) _ _ _)); (fail_if_success (with_reducible show wpAny _ _ (call (Value.ref (Mine.adr _ MN.seek)) _) _ _ _)); (fail_if_success (with_reducible show wpAny _ _ (call (Value.ref (Mine.adr _ MN.step)) _) _ _ _)); (fail_if_success (with_reducible show wpAny _ _ (call (Value.ref (Mine.adr _ MN.back)) _) _ _ _));
     (first | (k_unfold; (try dsimp only)) | walk1 | (dsimp only; walk1) | (leave1; walk_say "STEP leave1"; (try dsimp only)) | fail "no step"))))
set_option hygiene false in
local macro_rules | `(tactic| walk_at "subscriptTail") => `(tactic| ((with_reducible show wpAny _ _ (subscriptTail _ _ (Value.ref _) (Value.int _ _)) _ _ _); k_dflt (refine' Mine.item_list ?N ?m ?a ?b ?x ?_; (case N => k_asm); (case m => k_mem); (case a => omega); (case b => omega); (case x => assumption); k_whole)))
set_option hygiene false in
local macro_rules | `(tactic| walk_at "subscriptTail") => `(tactic| ((with_reducible show wpAny _ _ (subscriptTail _ _ (Value.ref _) (Value.int _ _)) _ _ _); k_dflt (refine' Mine.item_tup ?N ?m ?a ?b ?x ?_; (case N => k_asm); (case m => k_mem); (case a => omega); (case b => omega); (case x => first | exact rfl | assumption); k_whole)))
set_option hygiene false in
local macro_rules | `(tactic| walk_at "eval Name") => `(tactic| (k_dflt (refine' nameX_L ?F ?v ?_ ?a ?b; (case b => rfl); (case F => k_asm); (case a => rfl); (case v => first | exact rfl | assumption); k_whole)))
set_option hygiene false in
local macro_rules | `(tactic| walk_at "call ref") => `(tactic| ((with_reducible show wpAny _ _ (call (Value.ref 115) _) _ _ _); k_dflt (refine' Mine.rd32_r ?B ?F ?X ?N ?T ?hk ?hd ?hu ?s1 ?s2 ?s3 ?s4 ?_; walk_at "mine std"; (case s1 => assumption); (case s2 => omega); (case s3 => omega); (case s4 => omega); k_whole; intro t' h' tk' F' N' b1' b2'; (try k_sweep))))
set_option hygiene false in
local macro_rules | `(tactic| walk_at "call ref") => `(tactic| ((with_reducible show wpAny _ _ (call (Value.ref 122) _) _ _ _); k_dflt (refine' Mine.rd64_r ?B ?F ?X ?N ?T ?hk ?hd ?hu ?s1 ?s2 ?s3 ?s4 ?_; walk_at "mine std"; (case s1 => assumption); (case s2 => omega); (case s3 => omega); (case s4 => omega); k_whole; intro t' h' tk' F' N'; (try k_sweep))))
set_option hygiene false in
local macro_rules | `(tactic| walk_at "call ref") => `(tactic| ((with_reducible show wpAny _ _ (call (Value.ref 150) _) _ _ _); k_dflt (refine' Mine.user_of_r ?B ?F ?X ?N ?T ?hk ?hd ?hu ?s1 ?_; walk_at "mine std"; (case s1 => assumption); k_whole; intro t' h' tk' F' N'; (try k_sweep))))
set_option hygiene false in
local macro_rules | `(tactic| walk_at "call ref") => `(tactic| ((with_reducible show wpAny _ _ (call (Value.ref 157) _) _ _ _); k_dflt (refine' Mine.tag_of_r ?B ?F ?X ?N ?T ?hk ?hd ?hu ?s1 ?_; walk_at "mine std"; (case s1 => assumption); k_whole; intro t' h' tk' F' N'; (try k_sweep))))
set_option hygiene false in
local macro_rules | `(tactic| walk_at "call ref") => `(tactic| ((with_reducible show wpAny _ _ (call (Value.ref 171) _) _ _ _); k_dflt (refine' Mine.ocmp_r ?B ?F ?X ?N ?T ?hk ?hd ?hu  ?_; walk_at "mine std"; k_whole; intro t' h' tk' F' N'; (try k_sweep))))
set_option hygiene false in
local macro_rules | `(tactic| walk_at "call ref") => `(tactic| ((with_reducible show wpAny _ _ (call (Value.ref 253) _) _ _ _); k_dflt (refine' Mine.icmp_r ?B ?F ?X ?N ?T ?hk ?hd ?hu ?s1 ?s2 ?s3 ?_; walk_at "mine std"; (case s1 => assumption); (case s2 => assumption); (case s3 => first | assumption | (refine' OrdIn.mono ?oo ?os; (case oo => assumption); (case os => walk_at "mine sub"))); k_whole; intro t' h' tk' F' N'; (try k_sweep))))
set_option hygiene false in
local macro_rules | `(tactic| walk_at "call ref") => `(tactic| ((with_reducible show wpAny _ _ (call (Value.ref 405) _) _ _ _); k_dflt (refine' Mine.look_r ?B ?F ?X ?N ?T ?hk ?hd ?hu ?s1 ?s2 ?s3 ?s4 ?s5 ?s6 ?s7 ?s8 ?s9 ?s10 ?s11 ?_; (case s1 => assumption); walk_at "mine std"; (case s2 => exact hC2); (case s3 => exact hT2); (case s4 => exact n1); (case s5 => exact n2); (case s6 => exact hcv2); (case s7 => omega); (case s8 => omega); (case s9 => exact g1); (case s10 => exact g2); (case s11 => assumption); k_whole; intro v' h' tk' F' N' V'; (try k_sweep))))
set_option hygiene false in
local macro_rules | `(tactic| walk_at "call ref") => `(tactic| ((with_reducible show wpAny _ _ (call (Value.ref 412) _) _ _ _); k_dflt (refine' Mine.least_r ?B ?F ?X ?N ?T ?hk ?hd ?hu ?s1 ?s2 ?s3 ?s4 ?s5 ?s6 ?s7 ?s8 ?_; walk_at "mine std"; (case s1 => exact n1); (case s2 => exact ord2); (case s3 => exact ht2); (case s4 => exact hok2); (case s5 => omega); (case s6 => exact g1); (case s7 => exact g2); (case s8 => assumption); k_whole; intro t' h' tk' F' N'; (try k_sweep))))
set_option hygiene false in
local macro_rules | `(tactic| walk_at "call ref") => `(tactic| ((with_reducible show wpAny _ _ (call (Value.ref 419) _) _ _ _); k_dflt (refine' Mine.great_r ?B ?F ?X ?N ?T ?hk ?hd ?hu ?s1 ?s2 ?s3 ?s4 ?s5 ?s6 ?s7 ?s8 ?_; walk_at "mine std"; (case s1 => exact n1); (case s2 => exact ord2); (case s3 => exact ht2); (case s4 => exact hok2); (case s5 => omega); (case s6 => exact g1); (case s7 => exact g2); (case s8 => assumption); k_whole; intro t' h' tk' F' N'; (try k_sweep))))
set_option hygiene false in
local macro_rules | `(tactic| walk_at "call ref") => `(tactic| ((with_reducible show wpAny _ _ (call (Value.ref 321) _) _ _ _); k_dflt (refine' Mine.lvalid_r ?B ?F ?X ?N ?T ?hk ?hd ?hu ?s1 ?_; walk_at "mine std"; (case s1 => assumption); k_whole; intro h' tk' F' N'; (try k_sweep))))
set_option hygiene false in
local macro_rules | `(tactic| walk_at "mine subT") => `(tactic| (intro pp hpp; have hq := (List.mem_append.mp hpp).elim (hT pp) _root_.id; repeat (first | exact hq | refine List.mem_cons_of_mem _ ?_)))
set_option hygiene false in
local macro_rules | `(tactic| walk_at "getMethod ref") => `(tactic| ((with_reducible show wpAny _ _ (getMethod (Value.ref (KS.c _)) (PySem.Str.ofString "valid") _) _ _ _); k_dflt (refine' Mine.gm_cur ?S ?C ?F ?X ?N ?s MN.valid ?_; (case S => assumption); (case C => assumption); (case F => k_asm); (case X => k_asm); (case N => k_asm); (case s => walk_at "mine subT"); k_whole)))
set_option hygiene false in
local macro_rules | `(tactic| walk_at "getMethod ref") => `(tactic| ((with_reducible show wpAny _ _ (getMethod (Value.ref (KS.c _)) (PySem.Str.ofString "key") _) _ _ _); k_dflt (refine' Mine.gm_cur ?S ?C ?F ?X ?N ?s MN.key ?_; (case S => assumption); (case C => assumption); (case F => k_asm); (case X => k_asm); (case N => k_asm); (case s => walk_at "mine subT"); k_whole)))
set_option hygiene false in
local macro_rules | `(tactic| walk_at "getMethod ref") => `(tactic| ((with_reducible show wpAny _ _ (getMethod (Value.ref (KS.c _)) (PySem.Str.ofString "value") _) _ _ _); k_dflt (refine' Mine.gm_cur ?S ?C ?F ?X ?N ?s MN.value ?_; (case S => assumption); (case C => assumption); (case F => k_asm); (case X => k_asm); (case N => k_asm); (case s => walk_at "mine subT"); k_whole)))
set_option hygiene false in
local macro_rules | `(tactic| walk_at "getMethod ref") => `(tactic| ((with_reducible show wpAny _ _ (getMethod (Value.ref (KS.c _)) (PySem.Str.ofString "seek_first") _) _ _ _); k_dflt (refine' Mine.gm_cur ?S ?C ?F ?X ?N ?s MN.first ?_; (case S => assumption); (case C => assumption); (case F => k_asm); (case X => k_asm); (case N => k_asm); (case s => walk_at "mine subT"); k_whole)))
set_option hygiene false in
local macro_rules | `(tactic| walk_at "getMethod ref") => `(tactic| ((with_reducible show wpAny _ _ (getMethod (Value.ref (KS.c _)) (PySem.Str.ofString "seek_last") _) _ _ _); k_dflt (refine' Mine.gm_cur ?S ?C ?F ?X ?N ?s MN.last ?_; (case S => assumption); (case C => assumption); (case F => k_asm); (case X => k_asm); (case N => k_asm); (case s => walk_at "mine subT"); k_whole)))
set_option hygiene false in
local macro_rules | `(tactic| walk_at "getMethod ref") => `(tactic| ((with_reducible show wpAny _ _ (getMethod (Value.ref (KS.c _)) (PySem.Str.ofString "seek") _) _ _ _); k_dflt (refine' Mine.gm_cur ?S ?C ?F ?X ?N ?s MN.seek ?_; (case S => assumption); (case C => assumption); (case F => k_asm); (case X => k_asm); (case N => k_asm); (case s => walk_at "mine subT"); k_whole)))
set_option hygiene false in
local macro_rules | `(tactic| walk_at "getMethod ref") => `(tactic| ((with_reducible show wpAny _ _ (getMethod (Value.ref (KS.c _)) (PySem.Str.ofString "step") _) _ _ _); k_dflt (refine' Mine.gm_cur ?S ?C ?F ?X ?N ?s MN.step ?_; (case S => assumption); (case C => assumption); (case F => k_asm); (case X => k_asm); (case N => k_asm); (case s => walk_at "mine subT"); k_whole)))
set_option hygiene false in
local macro_rules | `(tactic| walk_at "getMethod ref") => `(tactic| ((with_reducible show wpAny _ _ (getMethod (Value.ref (KS.c _)) (PySem.Str.ofString "back") _) _ _ _); k_dflt (refine' Mine.gm_cur ?S ?C ?F ?X ?N ?s MN.back ?_; (case S => assumption); (case C => assumption); (case F => k_asm); (case X => k_asm); (case N => k_asm); (case s => walk_at "mine subT"); k_whole)))
set_option hygiene false in
local macro_rules | `(tactic| walk_at "callWith ref") => `(tactic| ((with_reducible show wpAny _ _ (callWith _ (Value.ref (Mine.adr _ _)) _ _ _) _ _ _); k_dflt (first | (refine' callWith_K ?k1 (Mine.keep_cur _ _ _) ?_; (case k1 => k_asm); k_whole) | (refine' callWith_K0 ?k1 (Mine.keep_cur _ _ _) ?_; (case k1 => k_in); k_whole))))
set_option hygiene false in
local macro_rules | `(tactic| walk_at "call ref") => `(tactic| ((with_reducible show wpAny _ _ (call (Value.ref (Mine.adr _ MN.valid)) _) _ _ _); k_dflt (refine' Mine.use_valid ?S ?C ?B ?F ?X ?N ?T ?hk ?hd ?hu ?s ?_; (case S => assumption); (case C => assumption); walk_at "mine std"; (case s => walk_at "mine subT"); k_whole; intro h' tk' F' N'; (try k_sweep))))
set_option hygiene false in
local macro_rules | `(tactic| walk_at "call ref") => `(tactic| ((with_reducible show wpAny _ _ (call (Value.ref (Mine.adr _ MN.key)) _) _ _ _); k_dflt (refine' Mine.use_key ?S ?C ?B ?F ?X ?N ?T ?hk ?hd ?hu ?x ?s ?_; (case S => assumption); (case C => assumption); walk_at "mine std"; (case x => assumption); (case s => walk_at "mine subT"); k_whole; intro t' h' tk' F' N'; (try k_sweep))))
set_option hygiene false in
local macro_rules | `(tactic| walk_at "call ref") => `(tactic| ((with_reducible show wpAny _ _ (call (Value.ref (Mine.adr _ MN.value)) _) _ _ _); k_dflt (refine' Mine.use_value ?S ?C ?B ?F ?X ?N ?T ?hk ?hd ?hu ?x ?s ?_; (case S => assumption); (case C => assumption); walk_at "mine std"; (case x => assumption); (case s => walk_at "mine subT"); k_whole; intro t' h' tk' F' N'; (try k_sweep))))
set_option hygiene false in
local macro_rules | `(tactic| walk_at "call ref") => `(tactic| ((with_reducible show wpAny _ _ (call (Value.ref (Mine.adr _ MN.valid)) _) _ _ _); k_dflt (refine' Mine.use_valid_none ?S ?C ?B ?F ?X ?N ?T ?hk ?hd ?hu ?s ?_; (case S => assumption); (case C => assumption); walk_at "mine std"; (case s => walk_at "mine subT"); k_whole; intro h' tk' F' N'; (try k_sweep))))
set_option hygiene false in
local macro_rules | `(tactic| walk_at "call ref") => `(tactic| ((with_reducible show wpAny _ _ (call (Value.ref (Mine.adr _ MN.valid)) _) _ _ _); k_dflt (refine' Mine.use_valid_some ?S ?C ?B ?F ?X ?N ?T ?hk ?hd ?hu ?s ?_; (case S => assumption); (case C => assumption); walk_at "mine std"; (case s => walk_at "mine subT"); k_whole; intro h' tk' F' N'; (try k_sweep))))
set_option hygiene false in
local macro_rules | `(tactic| walk_at "call type:range") => `(tactic| ((rename Fr _ _ _ _ => F'); (rename News _ _ _ _ => N'); first | (with_unfolding_all refine range1_rows F' N' ?_; intro h' tk' t1' u1' v1' R' F' N' G') | (with_unfolding_all refine range3_rows F' N' (by decide) ?_; intro h' tk' t1' u1' v1' R' F' N' G')))
set_option hygiene false in
local macro_rules | `(tactic| walk_at "setItem ref int") => `(tactic| ((with_reducible show wpAny _ _ (setItem (Value.ref _) (Value.int _ _) _) _ _ _); k_dflt (refine' Mine.set_list ?F ?N ?U ?a ?b ?c ?_; (case F => k_asm); (case N => k_asm); (case U => k_upd); (case a => omega); (case b => omega); (case c => omega); k_whole; intro h' F' N'; (try k_sweep))))
structure MP where
  h1 : Int
  h2 : Int
  h3 : Int
  h4 : Int
  h5 : Int
  t1 : Tok
  t2 : Tok
  t3 : Tok
  t4 : Tok
  t5 : Tok
abbrev MD (q : MP) (ch tp o : Addr) (cur : Int) (tc : Tok) (going : Int) (tg : Tok) : Obj :=
  dictOf [⟨q.h1, .str "children" q.t1, .ref ch⟩, ⟨q.h2, .str "tops" q.t2, .ref tp⟩, ⟨q.h3, .str "order" q.t3, .ref o⟩, ⟨q.h4, .str "current" q.t4, .int cur tc⟩, ⟨q.h5, .str "going" q.t5, .int going tg⟩] 5
/-- what a top holds -/
def TopV (k : Option IK) (v : Value) : Prop := match k with
  | none => v = .none
  | some e => ∃ t, v = .bytes (ikb e) t
def TopsAre (tops : Array Value) (keys : List (Option IK)) : Prop := tops.size = keys.length ∧ ∀ (i : Nat) k, keys[i]? = some k → ∃ v, tops[i]? = some v ∧ TopV k v
/-- the key that stands at a place, if one does -/
def keyAt (keys : List (Option IK)) (b : Int) : Option IK := (keys[b.toNat]?).join
/-- the first of the least among the first n -/
def leastTo (keys : List (Option IK)) : Nat → Int
  | 0 => -1
  | n + 1 => match keyAt keys n with
    | none => leastTo keys n
    | some e => if leastTo keys n < 0 then n else match keyAt keys (leastTo keys n) with
      | none => leastTo keys n
      | some f => if cmpI e f < 0 then n else leastTo keys n
/-- the last of the greatest among the last c -/
def greatOf (keys : List (Option IK)) : Nat → Int
  | 0 => -1
  | c + 1 => match keyAt keys ((keys.length - (c + 1) : Nat) : Int) with
    | none => greatOf keys c
    | some e => if greatOf keys c < 0 then ((keys.length - (c + 1) : Nat) : Int) else match keyAt keys (greatOf keys c) with
      | none => greatOf keys c
      | some f => if 0 < cmpI e f then ((keys.length - (c + 1) : Nat) : Int) else greatOf keys c
theorem TurnJ.next {h₀ h' : Heap} {L : Addr} {J : (Str → Option Value) → Led → Prop} {I : Addr} {o : Obj} {s : Shared} {Q : Flow → Shared → Prop} {f : Flow} {m' : Str → Option Value} {news' led : Led} {tk' : Nat}
    (hf : f = .next ∨ f = .cont) (F : Fr h₀ L h' m') (N : News h₀ L h' led) (hI : (I, o) ∈ led) (hs : ∀ p ∈ news', p ∈ led) (hne : ∀ p ∈ news', p.1 ≠ I) (hj : J m' news') : TurnJ h₀ L J I o s Q f { s with heap := h', toks := tk' } := by
  rcases hf with rfl | rfl <;> exact ⟨h', tk', m', news', led, rfl, F, N, hI, hs, hne, hj⟩
theorem keyAt_nat (keys : List (Option IK)) (n : Nat) : keyAt keys (n : Int) = (keys[n]?).join := rfl
theorem leastTo_spec (keys : List (Option IK)) : ∀ n, leastTo keys n < 0 ∨ (0 ≤ leastTo keys n ∧ leastTo keys n < n ∧ ∃ f, keyAt keys (leastTo keys n) = some f)
  | 0 => .inl (by unfold leastTo; decide)
  | n + 1 => by
    have ih := leastTo_spec keys n
    have up : leastTo keys n < 0 ∨ (0 ≤ leastTo keys n ∧ leastTo keys n < ((n + 1 : Nat) : Int) ∧ ∃ f, keyAt keys (leastTo keys n) = some f) := by
      rcases ih with h | ⟨a, b, c⟩
      · exact .inl h
      · exact .inr ⟨a, by omega, c⟩
    unfold leastTo
    cases he : keyAt keys n with
    | none => exact up
    | some e =>
      have here : (n : Int) < 0 ∨ (0 ≤ (n : Int) ∧ (n : Int) < ((n + 1 : Nat) : Int) ∧ ∃ f, keyAt keys (n : Int) = some f) := .inr ⟨by omega, by omega, e, he⟩
      simp only
      split
      · exact here
      · split
        · exact up
        · split
          · exact here
          · exact up
theorem keyAt_top {tops : Array Value} {keys : List (Option IK)} (ht : TopsAre tops keys) {b : Int} {f : IK} (h : keyAt keys b = some f) : ∃ t, tops[b.toNat]? = some (.bytes (ikb f) t) := by
  unfold keyAt at h
  cases hk : keys[b.toNat]? with
  | none => rw [hk] at h; cases h
  | some k =>
    rw [hk] at h
    have : k = some f := h
    obtain ⟨v, h1, h2⟩ := ht.2 _ _ hk
    rw [this] at h2
    obtain ⟨t, rfl⟩ := h2
    exact ⟨t, h1⟩
theorem keyAt_mem {keys : List (Option IK)} {b : Int} {f : IK} (h : keyAt keys b = some f) : some f ∈ keys := by
  unfold keyAt at h
  cases hk : keys[b.toNat]? with
  | none => rw [hk] at h; cases h
  | some k =>
    rw [hk] at h
    have : k = some f := h
    rw [← this]
    exact List.mem_of_getElem? hk
theorem keyAt_lt {keys : List (Option IK)} {i : Nat} {e : IK} (h : keyAt keys (i : Int) = some e) : i < keys.length := by
  rw [keyAt_nat] at h
  cases hk : keys[i]? with
  | none => rw [hk] at h; cases h
  | some k => exact (List.getElem?_eq_some_iff.mp hk).1
theorem greatOf_spec (keys : List (Option IK)) : ∀ c, greatOf keys c < 0 ∨ (0 ≤ greatOf keys c ∧ greatOf keys c < keys.length ∧ ∃ f, keyAt keys (greatOf keys c) = some f)
  | 0 => .inl (by unfold greatOf; decide)
  | c + 1 => by
    have ih := greatOf_spec keys c
    unfold greatOf
    cases he : keyAt keys ((keys.length - (c + 1) : Nat) : Int) with
    | none => exact ih
    | some e =>
      have hl := keyAt_lt he
      have here : ((keys.length - (c + 1) : Nat) : Int) < 0 ∨ (0 ≤ ((keys.length - (c + 1) : Nat) : Int) ∧ ((keys.length - (c + 1) : Nat) : Int) < keys.length ∧ ∃ f, keyAt keys ((keys.length - (c + 1) : Nat) : Int) = some f) := .inr ⟨by omega, by omega, e, he⟩
      simp only
      split
      · exact here
      · split
        · exact ih
        · split
          · exact here
          · exact ih
/-- the children, moved; f says whither -/
structure Moved (f : Nat → KS → Option Nat) (ks ks' : List KS) : Prop where
  len : ks'.length = ks.length
  at_ : ∀ (i : Nat) k, ks[i]? = some k → ∃ fp', ks'[i]? = some { k with fp := fp', st := f i k } ∧ sameAdr fp' k.fp
/-- the first n are moved, the others stand -/
structure PartMoved (f : Nat → KS → Option Nat) (ks ks' : List KS) (tops0 tops : Array Value) (n : Nat) : Prop where
  len : ks'.length = ks.length
  sz : tops.size = ks.length
  done : ∀ (i : Nat) k, i < n → ks[i]? = some k → ∃ fp', ks'[i]? = some { k with fp := fp', st := f i k } ∧ sameAdr fp' k.fp ∧ ∃ v, tops[i]? = some v ∧ TopV (KS.key { k with fp := fp', st := f i k }) v
  todo : ∀ (i : Nat), n ≤ i → ks'[i]? = ks[i]?
  todoT : ∀ (i : Nat), n ≤ i → tops[i]? = tops0[i]?
theorem PartMoved.step {f : Nat → KS → Option Nat} {ks ks' : List KS} {tops0 tops : Array Value} {n : Nat} {k : KS} {fp' : Led} {v : Value} (P : PartMoved f ks ks' tops0 tops n) (hk : ks[n]? = some k) (ha : sameAdr fp' k.fp) (hv : TopV (KS.key { k with fp := fp', st := f n k }) v) :
    PartMoved f ks (ks'.set n { k with fp := fp', st := f n k }) tops0 (tops.setIfInBounds n v) (n + 1) := by
  have hn := (List.getElem?_eq_some_iff.mp hk).1
  have hn' : n < ks'.length := by rw [P.len]; exact hn
  refine ⟨by rw [List.length_set]; exact P.len, by rw [Array.size_setIfInBounds]; exact P.sz, fun i k2 hi h2 => ?_, fun i hi => ?_, fun i hi => ?_⟩
  · by_cases e : n = i
    · subst e
      rw [hk] at h2; cases h2
      refine ⟨fp', by rw [List.getElem?_set_self hn'], ha, v, ?_, hv⟩
      rw [Array.getElem?_setIfInBounds_self_of_lt (by rw [P.sz]; exact hn)]
    · obtain ⟨fp2, a, b, v2, c, d⟩ := P.done i k2 (by omega) h2
      exact ⟨fp2, by rw [List.getElem?_set_ne e]; exact a, b, v2, by rw [Array.getElem?_setIfInBounds_ne e]; exact c, d⟩
  · rw [List.getElem?_set_ne (by omega)]
    exact P.todo i (by omega)
  · rw [Array.getElem?_setIfInBounds_ne (by omega)]
    exact P.todoT i (by omega)
theorem PartMoved.skip {f : Nat → KS → Option Nat} {ks ks' : List KS} {tops0 tops : Array Value} {n : Nat} {k : KS} {v : Value} (P : PartMoved f ks ks' tops0 tops n) (hk : ks[n]? = some k) (hf : f n k = k.st) (ht : tops0[n]? = some v) (hv : TopV k.key v) :
    PartMoved f ks ks' tops0 tops (n + 1) := by
  refine ⟨P.len, P.sz, fun i k2 hi h2 => ?_, fun i hi => P.todo i (by omega), fun i hi => P.todoT i (by omega)⟩
  by_cases e : n = i
  · subst e
    rw [hk] at h2; cases h2
    refine ⟨k.fp, ?_, rfl, v, ?_, ?_⟩
    · rw [P.todo n (Nat.le_refl _), hk, hf]
    · rw [P.todoT n (Nat.le_refl _), ht]
    · rw [hf]; exact hv
  · exact P.done i k2 (by omega) h2
theorem PartMoved.all {f : Nat → KS → Option Nat} {ks ks' : List KS} {tops0 tops : Array Value} (P : PartMoved f ks ks' tops0 tops ks.length) : Moved f ks ks' ∧ TopsAre tops (ks'.map KS.key) := by
  refine ⟨⟨P.len, fun i k hk => ?_⟩, by rw [List.length_map, P.len, P.sz], fun i k hk => ?_⟩
  · obtain ⟨fp', a, b, _⟩ := P.done i k (List.getElem?_eq_some_iff.mp hk).1 hk
    exact ⟨fp', a, b⟩
  · rw [List.getElem?_map] at hk
    obtain ⟨k', hk', rfl⟩ := Option.map_eq_some_iff.mp hk
    have hi : i < ks.length := by rw [← P.len]; exact (List.getElem?_eq_some_iff.mp hk').1
    obtain ⟨fp', a, b, v, c, d⟩ := P.done i _ hi (List.getElem?_eq_getElem hi)
    rw [hk'] at a
    cases a
    exact ⟨v, c, d⟩
theorem PartMoved.zero {f : Nat → KS → Option Nat} {ks : List KS} {tops : Array Value} (h : tops.size = ks.length) : PartMoved f ks ks tops tops 0 :=
  ⟨rfl, h, fun _ _ h => absurd h (Nat.not_lt_zero _), fun _ _ => rfl, fun _ _ => rfl⟩
theorem off_cons {x : Addr × Obj} {fp T : Led} (h1 : ∀ p ∈ fp, x.1 ≠ p.1) (h2 : Off fp T) : Off fp (x :: T) := fun p hp q hq => by
  rcases List.mem_cons.mp hq with rfl | h
  · exact h1 p hp
  · exact h2 p hp q h
theorem adr_set {ks : List KS} {i : Nat} {k k' : KS} (hk : ks[i]? = some k) (ha : sameAdr k'.fp k.fp) : ∀ p ∈ kfps (ks.set i k'), ∃ p' ∈ kfps ks, p'.1 = p.1 := fun p hp => by
  rcases mem_kfps_set hp with h | h
  · have : p.1 ∈ k.fp.map (·.1) := ha ▸ List.mem_map_of_mem h
    obtain ⟨p', hp', e⟩ := List.mem_map.mp this
    exact ⟨p', mem_kfps (List.mem_of_getElem? hk) p' hp', e⟩
  · exact ⟨p, mem_erase_of h, rfl⟩
/-- what holds between the turns of a loop over the children -/
structure LoopIn (C : CurP) (rest : Led) (f : Nat → KS → Option Nat) (ks ks₁ : List KS) (tops0 tops₁ : Array Value) (dx tp : Addr) (n : Nat) : Prop where
  kids : KidsIn C rest ks₁
  part : PartMoved f ks ks₁ tops0 tops₁ n
  off : ∀ p ∈ kfps ks₁ ++ rest, p.1 ≠ dx ∧ p.1 ≠ tp
theorem LoopIn.step {C : CurP} {rest : Led} {f : Nat → KS → Option Nat} {ks ks₁ : List KS} {tops0 tops₁ : Array Value} {dx tp : Addr} {n : Nat} {k : KS} {fp' : Led} {v : Value} (l : LoopIn C rest f ks ks₁ tops0 tops₁ dx tp n) (hk : ks[n]? = some k)
    (ha : sameAdr fp' k.fp) (K : KidsIn C rest (ks₁.set n { k with fp := fp', st := f n k })) (hv : TopV (KS.key { k with fp := fp', st := f n k }) v) :
    LoopIn C rest f ks (ks₁.set n { k with fp := fp', st := f n k }) tops0 (tops₁.setIfInBounds n v) dx tp (n + 1) := by
  have hk1 : ks₁[n]? = some k := by rw [l.part.todo n (Nat.le_refl _)]; exact hk
  refine ⟨K, l.part.step hk ha hv, fun p hp => ?_⟩
  rcases List.mem_append.mp hp with h | h
  · obtain ⟨p', hp', e⟩ := adr_set (k' := { k with fp := fp', st := f n k }) hk1 ha p h
    rw [← e]; exact l.off p' (List.mem_append_left _ hp')
  · exact l.off p (List.mem_append_right _ h)
section
variable {w : World} {dp un : Nat} {gd : Option (List Code)} {cn : Str} {cs : Scope} {a : Addr} {ccd : Value} {cl : List (Str × Addr)} {outer : List Env} {A₀ : Around} {base h₀ : Heap} {L : Addr} {m mg mb : Str → Option Value} {mean : ExcName → Option Value} {s : Shared} {rest : Led}
  {Q E : Value → Shared → Prop} {D : Nat} {C : CurP} {x dx ch tp o : Addr} {q : MP} {cur going : Int} {tc tg : Tok} {tops : Array Value} {nt : Nat} {ks : List KS} {kc : KS}
set_option maxRecDepth 100000 in
set_option maxHeartbeats 8000000 in
theorem look_r {i : Nat} {ti : Tok} {cv : Array Value} {nc : Nat} (B : Below A₀ base outer h₀) (F : Fr h₀ L s.heap m) (X : (Mine.hd.heap_39 w.params).In h₀) (N : News h₀ L s.heap ((dx, MD q ch tp o cur tc going tg) :: (tp, listOf tops nt) :: rest)) (T : Top VW (looseW VW []) mean mg mb h₀) (hk : cs.kind = .function) (hd : dp + (D + 1) < recursionLimit) (hu : un + 8 * (D + 1) < cLine)
    (S : CurSpec w D C) (hC : C kc.fp rest kc.c kc.kd kc.R kc.st) (hT : ∀ p ∈ kc.fp, p ∈ rest) (m1 : (x, instObj 506 dx) ∈ rest) (m2 : (ch, listOf cv nc) ∈ rest) (hcv : cv[i]? = some (.ref kc.c)) (hi : i < tops.size) (hn : tops.size ≤ 1000) (off1 : ∀ p ∈ rest, p.1 ≠ dx) (off2 : ∀ p ∈ rest, p.1 ≠ tp) (off3 : @Ne Nat dx tp) (k : ∀ v h' tk', Fr h₀ L h' m → News h₀ L h' ((dx, MD q ch tp o (cur) tc (going) tg) :: (tp, listOf (tops.setIfInBounds i v) nt) :: rest) → TopV kc.key v → Q (.none) { s with heap := h', toks := tk' }) :
    wpAny (model Challenge.rw_no0415_01.row.prog w) (ktrTop dp un gd cn cs L a ccd cl outer) (call (.ref 405) [.ref x, .int (i : Int) ti]) Q E s := by
  have hcv2 : cv[((i : Nat) : Int).toNat]? = some (.ref kc.c) := hcv
  walk_at "mine begin"
  walk_at "mine steps"
  · obtain ⟨j, hj⟩ := Option.isSome_iff_exists.mp (by assumption)
    rw [hj] at hC
    obtain ⟨xr, hx⟩ : ∃ xr, kc.R[j]? = some xr := ⟨_, List.getElem?_eq_getElem ((S.size hC).2 j rfl)⟩
    walk_at "mine steps"
    refine k _ _ _ (by k_asm) (by k_asm) ?_
    unfold KS.key
    rw [hj, Option.bind_some, hx]
    exact ⟨_, rfl⟩
  · refine k _ _ _ (by k_asm) (by k_asm) ?_
    have hj : kc.st = none := by
      cases h : kc.st with
      | none => rfl
      | some j => simp_all
    unfold KS.key
    rw [hj]
    rfl
set_option maxRecDepth 100000 in
set_option maxHeartbeats 8000000 in
theorem least_r {keys : List (Option IK)} (B : Below A₀ base outer h₀) (F : Fr h₀ L s.heap m) (X : (Mine.hd.heap_39 w.params).In h₀) (N : News h₀ L s.heap ((dx, MD q ch tp o cur tc going tg) :: (tp, listOf tops nt) :: rest)) (T : Top VW (looseW VW []) mean mg mb h₀) (hk : cs.kind = .function) (hd : dp + 6 < recursionLimit) (hu : un + 48 < cLine)
    (m1 : (x, instObj 506 dx) ∈ rest) (ord : OrdIn rest o) (ht : TopsAre tops keys) (hok : ∀ e, some e ∈ keys → e.Ok) (hn : keys.length ≤ 1000) (off1 : ∀ p ∈ rest, p.1 ≠ dx) (off2 : ∀ p ∈ rest, p.1 ≠ tp) (off3 : @Ne Nat dx tp) (k : ∀ t' h' tk', Fr h₀ L h' m → News h₀ L h' ((dx, MD q ch tp o (leastTo keys keys.length) t' (going) tg) :: (tp, listOf (tops) nt) :: rest) → Q (.none) { s with heap := h', toks := tk' }) :
    wpAny (model Challenge.rw_no0415_01.row.prog w) (ktrTop dp un gd cn cs L a ccd cl outer) (call (.ref 412) [.ref x]) Q E s := by
  obtain ⟨duo, uo, dd, hh, tt, nn, o1, o2, o3, o4⟩ := id ord
  have hsz := ht.1
  walk_at "mine begin"
  walk_at "mine steps"
  rename Fr _ _ _ _ => FF
  rename News _ _ _ _ => NN
  rename IsRange _ _ _ _ _ _ _ _ => RR
  have hsz2 : (tops.size : Int) = (keys.length : Int) := by omega
  refine iter_up (n := keys.length) (fun i m₁ news₁ => news₁ = (dx, MD q ch tp o cur tc going tg) :: (tp, listOf tops nt) :: rest ∧ m₁ "self" = some (.ref x) ∧ ∃ tb, m₁ "best" = some (.int (leastTo keys i) tb)) rfl RR (by omega) FF NN ⟨rfl, rfl, _, rfl⟩ ?_ ?_
  · clear FF NN RR
    rintro i t m₁ news₁ h tk I oI hi ⟨rfl, e1, tb, e2⟩ hne F₁ N₁
    obtain ⟨k0, hk0⟩ : ∃ k0, keys[i]? = some k0 := ⟨_, List.getElem?_eq_getElem hi⟩
    obtain ⟨v, hv, hv2⟩ := ht.2 _ _ hk0
    have hvi : tops[((i : Nat) : Int).toNat]? = some v := hv
    have hat : keyAt keys (i : Int) = k0 := by rw [keyAt_nat, hk0]; rfl
    cases k0 with
    | none =>
      have hv3 : v = .none := hv2
      subst hv3
      have hL : leastTo keys (i + 1) = leastTo keys i := by rw [leastTo, hat]
      walk_at "mine steps"
      rename Fr _ _ _ _ => FF
      rename News _ _ _ _ => NN
      exact TurnJ.next (.inr rfl) FF NN (by k_mem) (fun p hp => .tail _ hp) hne ⟨rfl, e1, tb, by rw [hL]; exact e2⟩
    | some e =>
      obtain ⟨te, rfl⟩ := hv2
      have he : e.Ok := hok e (List.mem_of_getElem? hk0)
      rcases leastTo_spec keys i with hneg | ⟨b1, b2, f, hf⟩
      · have hL : leastTo keys (i + 1) = i := by rw [leastTo, hat]; simp only [if_pos hneg]
        walk_at "mine steps"
        rename Fr _ _ _ _ => FF
        rename News _ _ _ _ => NN
        exact TurnJ.next (.inl rfl) FF NN (by k_mem) (fun p hp => .tail _ hp) hne ⟨rfl, e1, _, by rw [hL]; rfl⟩
      · obtain ⟨tf, hvf⟩ := keyAt_top ht hf
        have hfo : f.Ok := hok f (keyAt_mem hf)
        have hL : leastTo keys (i + 1) = if cmpI e f < 0 then (i : Int) else leastTo keys i := by rw [leastTo, hat]; simp only [if_neg (Int.not_lt.mpr b1), hf]
        walk_at "mine steps"
        · rename Fr _ _ _ _ => FF
          rename News _ _ _ _ => NN
          exact TurnJ.next (.inl rfl) FF NN (by k_mem) (fun p hp => .tail _ hp) hne ⟨rfl, e1, _, by rw [hL, if_pos (by assumption)]; rfl⟩
        · rename Fr _ _ _ _ => FF
          rename News _ _ _ _ => NN
          exact TurnJ.next (.inl rfl) FF NN (by k_mem) (fun p hp => .tail _ hp) hne ⟨rfl, e1, tb, by rw [hL, if_neg (by assumption)]; exact e2⟩
  · clear FF NN RR
    rintro m₁ news₁ h tk ⟨rfl, e1, tb, e2⟩ F₁ N₁
    walk_at "mine steps"
    all_goals (exact k _ _ _ (by k_asm) (by k_asm))
set_option maxRecDepth 100000 in
set_option maxHeartbeats 8000000 in
theorem great_r {keys : List (Option IK)} (B : Below A₀ base outer h₀) (F : Fr h₀ L s.heap m) (X : (Mine.hd.heap_39 w.params).In h₀) (N : News h₀ L s.heap ((dx, MD q ch tp o cur tc going tg) :: (tp, listOf tops nt) :: rest)) (T : Top VW (looseW VW []) mean mg mb h₀) (hk : cs.kind = .function) (hd : dp + 6 < recursionLimit) (hu : un + 48 < cLine)
    (m1 : (x, instObj 506 dx) ∈ rest) (ord : OrdIn rest o) (ht : TopsAre tops keys) (hok : ∀ e, some e ∈ keys → e.Ok) (hn : keys.length ≤ 1000) (off1 : ∀ p ∈ rest, p.1 ≠ dx) (off2 : ∀ p ∈ rest, p.1 ≠ tp) (off3 : @Ne Nat dx tp) (k : ∀ t' h' tk', Fr h₀ L h' m → News h₀ L h' ((dx, MD q ch tp o (greatOf keys keys.length) t' (going) tg) :: (tp, listOf (tops) nt) :: rest) → Q (.none) { s with heap := h', toks := tk' }) :
    wpAny (model Challenge.rw_no0415_01.row.prog w) (ktrTop dp un gd cn cs L a ccd cl outer) (call (.ref 419) [.ref x]) Q E s := by
  obtain ⟨duo, uo, dd, hh, tt, nn, o1, o2, o3, o4⟩ := id ord
  have hsz := ht.1
  walk_at "mine begin"
  walk_at "mine steps"
  rename Fr _ _ _ _ => FF
  rename News _ _ _ _ => NN
  rename IsRange _ _ _ _ _ _ _ _ => RR
  have hsz2 : (tops.size : Int) = (keys.length : Int) := by omega
  refine iter_down (n := keys.length) (fun i m₁ news₁ => news₁ = (dx, MD q ch tp o cur tc going tg) :: (tp, listOf tops nt) :: rest ∧ m₁ "self" = some (.ref x) ∧ ∃ tb, m₁ "best" = some (.int (greatOf keys (keys.length - i)) tb)) rfl RR (by omega) FF NN ⟨rfl, rfl, _, by rw [Nat.sub_self]; rfl⟩ ?_ ?_
  · clear FF NN RR
    rintro i t m₁ news₁ h tk I oI hi ⟨rfl, e1, tb, e2⟩ hne F₁ N₁
    obtain ⟨k0, hk0⟩ : ∃ k0, keys[i]? = some k0 := ⟨_, List.getElem?_eq_getElem hi⟩
    obtain ⟨v, hv, hv2⟩ := ht.2 _ _ hk0
    have hvi : tops[((i : Nat) : Int).toNat]? = some v := hv
    have hat : keyAt keys (i : Int) = k0 := by rw [keyAt_nat, hk0]; rfl
    cases k0 with
    | none =>
      have hv3 : v = .none := hv2
      subst hv3
      have hL : greatOf keys (keys.length - i) = greatOf keys (keys.length - (i + 1)) := by rw [show keys.length - i = keys.length - (i + 1) + 1 by omega, greatOf, show keys.length - (keys.length - (i + 1) + 1) = i by omega, hat]
      walk_at "mine steps"
      rename Fr _ _ _ _ => FF
      rename News _ _ _ _ => NN
      exact TurnJ.next (.inr rfl) FF NN (by k_mem) (fun p hp => .tail _ hp) hne ⟨rfl, e1, tb, by rw [hL]; exact e2⟩
    | some e =>
      obtain ⟨te, rfl⟩ := hv2
      have he : e.Ok := hok e (List.mem_of_getElem? hk0)
      rcases greatOf_spec keys (keys.length - (i + 1)) with hneg | ⟨b1, b2, f, hf⟩
      · have hL : greatOf keys (keys.length - i) = i := by rw [show keys.length - i = keys.length - (i + 1) + 1 by omega, greatOf, show keys.length - (keys.length - (i + 1) + 1) = i by omega, hat]; simp only [if_pos hneg]
        walk_at "mine steps"
        rename Fr _ _ _ _ => FF
        rename News _ _ _ _ => NN
        exact TurnJ.next (.inl rfl) FF NN (by k_mem) (fun p hp => .tail _ hp) hne ⟨rfl, e1, _, by rw [hL]; rfl⟩
      · obtain ⟨tf, hvf⟩ := keyAt_top ht hf
        have hfo : f.Ok := hok f (keyAt_mem hf)
        have hL : greatOf keys (keys.length - i) = if 0 < cmpI e f then (i : Int) else greatOf keys (keys.length - (i + 1)) := by rw [show keys.length - i = keys.length - (i + 1) + 1 by omega, greatOf, show keys.length - (keys.length - (i + 1) + 1) = i by omega, hat]; simp only [if_neg (Int.not_lt.mpr b1), hf]
        walk_at "mine steps"
        · rename Fr _ _ _ _ => FF
          rename News _ _ _ _ => NN
          exact TurnJ.next (.inl rfl) FF NN (by k_mem) (fun p hp => .tail _ hp) hne ⟨rfl, e1, _, by rw [hL, if_pos (by assumption)]; rfl⟩
        · rename Fr _ _ _ _ => FF
          rename News _ _ _ _ => NN
          exact TurnJ.next (.inl rfl) FF NN (by k_mem) (fun p hp => .tail _ hp) hne ⟨rfl, e1, tb, by rw [hL, if_neg (by assumption)]; exact e2⟩
  · clear FF NN RR
    rintro m₁ news₁ h tk ⟨rfl, e1, tb, e2⟩ F₁ N₁
    rw [Nat.sub_zero] at e2
    walk_at "mine steps"
    all_goals (exact k _ _ _ (by k_asm) (by k_asm))
end
open PySem PySem.W PyProof.Rows
section
variable {w : World} {dp un : Nat} {gd : Option (List Code)} {cn : Str} {cs : Scope} {a : Addr} {ccd : Value} {cl : List (Str × Addr)} {outer : List Env} {A₀ : Around} {base h₀ : Heap} {L : Addr} {m mg mb : Str → Option Value} {mean : ExcName → Option Value} {s : Shared} {rest : Led}
  {Q E : Value → Shared → Prop} {D : Nat} {C : CurP} {x dx ch tp o : Addr} {q : MP} {cur going : Int} {tc tg : Tok} {tops : Array Value} {nt : Nat} {ks : List KS} {kc : KS}
set_option maxRecDepth 100000 in
set_option maxHeartbeats 8000000 in
theorem mfirst_r {cv : Array Value} {nc : Nat}  (B : Below A₀ base outer h₀) (F : Fr h₀ L s.heap m) (X : (Mine.hd.heap_39 w.params).In h₀) (N : News h₀ L s.heap ((dx, MD q ch tp o cur tc going tg) :: (tp, listOf tops nt) :: (kfps ks ++ rest))) (T : Top VW (looseW VW []) mean mg mb h₀) (hk : cs.kind = .function) (hd : dp + (D + 8) < recursionLimit) (hu : un + 8 * (D + 8) < cLine)
    (S : CurSpec w D C) (K : KidsIn C rest ks) (m1 : (x, instObj 506 dx) ∈ rest) (m2 : (ch, listOf cv nc) ∈ rest) (hcl : cv.size = ks.length) (hcv : ∀ (i : Nat) k, ks[i]? = some k → cv[i]? = some (.ref k.c)) (hts : tops.size = ks.length) (ord : OrdIn rest o) (hn : ks.length ≤ 1000) (offx : ∀ p ∈ kfps ks ++ rest, p.1 ≠ dx ∧ p.1 ≠ tp) (off3 : @Ne Nat dx tp) (k : ∀ t' t2 tops' ks' h' tk', Fr h₀ L h' m → News h₀ L h' ((dx, MD q ch tp o (leastTo (ks'.map KS.key) (ks'.map KS.key).length) t' 0 t2) :: (tp, listOf tops' nt) :: (kfps ks' ++ rest)) → KidsIn C rest ks' → Moved (fun _ k => firstAt k.R) ks ks' → TopsAre tops' (ks'.map KS.key) → Q (.none) { s with heap := h', toks := tk' }) :
    wpAny (model Challenge.rw_no0415_01.row.prog w) (ktrTop dp un gd cn cs L a ccd cl outer) (call (.ref 440) [.ref x]) Q E s := by
  have hcl2 : (cv.size : Int) = (ks.length : Int) := by omega
  generalize hTT : kfps ks ++ rest = TT at N
  have q1 : (x, instObj 506 dx) ∈ TT := hTT ▸ List.mem_append_right _ m1
  have q2 : (ch, listOf cv nc) ∈ TT := hTT ▸ List.mem_append_right _ m2
  have f1 : ∀ p ∈ TT, p.1 ≠ dx := fun p hp => (offx p (hTT ▸ hp)).1
  have f2 : ∀ p ∈ TT, p.1 ≠ tp := fun p hp => (offx p (hTT ▸ hp)).2
  walk_at "mine begin"
  walk_at "mine steps"
  rename Fr _ _ _ _ => FF
  rename News _ _ _ _ => NN
  rename IsRange _ _ _ _ _ _ _ _ => RR
  subst hTT
  refine iter_up (n := ks.length) (fun i m₁ news₁ => m₁ "self" = some (.ref x) ∧ ∃ ks₁ tops₁ tcc, news₁ = (dx, MD q ch tp o (-1) tcc going tg) :: (tp, listOf tops₁ nt) :: (kfps ks₁ ++ rest) ∧ LoopIn C rest (fun _ k => firstAt k.R) ks ks₁ tops tops₁ dx tp i) rfl RR (by omega) FF NN ⟨rfl, ks, tops, _, rfl, K, .zero hts, offx⟩ ?_ ?_
  · clear FF NN RR q1 q2 f1 f2
    rintro i t m₁ news₁ h tk I oI hi ⟨e1, ks₁, tops₁, tcc, rfl, l⟩ hne F₁ N₁
    obtain ⟨kc, hkc⟩ : ∃ kc, ks[i]? = some kc := ⟨_, List.getElem?_eq_getElem hi⟩
    have hk1 : ks₁[i]? = some kc := by rw [l.part.todo i (Nat.le_refl _)]; exact hkc
    have hmem := List.mem_of_getElem? hk1
    have hcv1 : cv[((i : Nat) : Int).toNat]? = some (.ref kc.c) := hcv i kc hkc
    have hne2 : ∀ p ∈ kfps ks₁ ++ rest, p.1 ≠ I := fun p hp => hne p (.tail _ (.tail _ hp))
    have hneD := hne _ (.head _)
    have hneT := hne _ (.tail _ (.head _))
    generalize hT1 : kfps ks₁ ++ rest = T1 at N₁
    have hC : C kc.fp T1 kc.c kc.kd kc.R kc.st := S.mono (l.kids.cur _ hmem) fun p hp => hT1 ▸ List.mem_append_right _ hp
    have hT : ∀ p ∈ kc.fp, p ∈ T1 := fun p hp => hT1 ▸ List.mem_append_left _ (mem_kfps hmem p hp)
    have q2 : (ch, listOf cv nc) ∈ T1 := hT1 ▸ List.mem_append_right _ m2
    have q1 : (x, instObj 506 dx) ∈ T1 := hT1 ▸ List.mem_append_right _ m1
    walk_at "mine steps"
    rename News _ _ _ _ => NN
    refine' kid_call (ext := [(dx, MD q ch tp o (-1) tcc going tg), (tp, listOf tops₁ nt), (I, oI)]) l.kids hk1 (fun h1 h2 => S.first (l.kids.cur _ hmem) h1 h2) ?B ?F ?X ?N ?T ?hk ?hd ?hu ?_ ?_ ?_
    walk_at "mine std"
    · intro p hp
      rw [hT1] at hp
      simp only [List.cons_append, List.nil_append, List.mem_cons] at hp ⊢
      rcases hp with h | h | h | h <;> simp [h]
    · intro p hp p' hp'
      have z := l.off p (List.mem_append_left _ (mem_kfps hmem p hp))
      have z2 := hne2 p (List.mem_append_left _ (mem_kfps hmem p hp))
      simp only [List.mem_cons, List.not_mem_nil, or_false] at hp'
      rcases hp' with rfl | rfl | rfl
      · exact fun e => z.1 e.symm
      · exact fun e => z.2 e.symm
      · exact fun e => z2 e.symm
    clear NN hC hT q2
    intro fp' h' tk' F' N' ha K2
    simp only [List.cons_append, List.nil_append] at N'
    obtain ⟨k2, hk2⟩ : ∃ k2 : KS, k2 = { kc with fp := fp', st := (fun _ k => firstAt k.R) i kc } := ⟨_, rfl⟩
    have hmem2 : k2 ∈ ks₁.set i k2 := List.mem_of_getElem? (List.getElem?_set_self (List.getElem?_eq_some_iff.mp hk1).1)
    have hl2 : ∀ p ∈ kfps (ks₁.set i k2) ++ rest, p.1 ≠ dx ∧ p.1 ≠ tp ∧ p.1 ≠ I := fun p hp => by
      rcases List.mem_append.mp hp with h | h
      · obtain ⟨p', hp', e⟩ := adr_set (k' := k2) hk1 (by rw [hk2]; exact ha) p h
        rw [← e]; exact ⟨(l.off p' (List.mem_append_left _ hp')).1, (l.off p' (List.mem_append_left _ hp')).2, hne2 p' (List.mem_append_left _ hp')⟩
      · exact ⟨(l.off p (List.mem_append_right _ h)).1, (l.off p (List.mem_append_right _ h)).2, hne2 p (List.mem_append_right _ h)⟩
    rw [← hk2] at N' K2
    generalize eT2 : (I, oI) :: (kfps (ks₁.set i k2) ++ rest) = T2 at N'
    have sub2 : ∀ p ∈ rest, p ∈ T2 := fun p hp => eT2 ▸ .tail _ (List.mem_append_right _ hp)
    have hC2 : C k2.fp T2 k2.c k2.kd k2.R k2.st := S.mono (K2.cur _ hmem2) sub2
    have hT2 : ∀ p ∈ k2.fp, p ∈ T2 := fun p hp => eT2 ▸ .tail _ (List.mem_append_left _ (mem_kfps hmem2 p hp))
    have n1 := sub2 _ m1
    have n2 := sub2 _ m2
    have hcv2 : cv[i]? = some (.ref k2.c) := by rw [hk2]; exact hcv i kc hkc
    have htz : tops₁.size = ks.length := l.part.sz
    have g1 : ∀ p ∈ T2, p.1 ≠ dx := fun p hp => by
      rw [← eT2] at hp
      rcases List.mem_cons.mp hp with rfl | h
      · exact fun e => hneD e.symm
      · exact (hl2 p h).1
    have g2 : ∀ p ∈ T2, p.1 ≠ tp := fun p hp => by
      rw [← eT2] at hp
      rcases List.mem_cons.mp hp with rfl | h
      · exact fun e => hneT e.symm
      · exact (hl2 p h).2.1
    walk_at "mine steps"
    rename Fr _ _ _ _ => FF
    rename News _ _ _ _ => NN
    rename TopV _ _ => VV
    rw [hk2] at VV
    refine TurnJ.next (.inl rfl) FF NN (.tail _ (.tail _ (eT2 ▸ .head _))) (fun p hp => ?_) (fun p hp => ?_) ⟨e1, ks₁.set i k2, _, tcc, rfl, by rw [hk2]; exact l.step hkc ha (hk2 ▸ K2) VV⟩
    · rcases List.mem_cons.mp hp with h | h
      · exact h ▸ .head _
      · rcases List.mem_cons.mp h with h | h
        · exact h ▸ .tail _ (.head _)
        · exact .tail _ (.tail _ (eT2 ▸ .tail _ h))
    · rcases List.mem_cons.mp hp with h | h
      · exact h ▸ hneD
      · rcases List.mem_cons.mp h with h | h
        · exact h ▸ hneT
        · exact (hl2 p h).2.2
  · clear FF NN RR q1 q2 f1 f2
    rintro m₁ news₁ h tk ⟨e1, ks₁, tops₁, tcc, rfl, l⟩ F₁ N₁
    obtain ⟨mv, ht2⟩ := l.part.all
    have hlen : (ks₁.map KS.key).length = ks.length := by rw [List.length_map]; exact mv.len
    have hok2 : ∀ e, some e ∈ ks₁.map KS.key → e.Ok := fun e he => by
      obtain ⟨kk, hkk, ek⟩ := List.mem_map.mp he
      unfold KS.key at ek
      obtain ⟨j, hj, ej⟩ := Option.bind_eq_some_iff.mp ek
      obtain ⟨xr, hxr, rfl⟩ := Option.map_eq_some_iff.mp ej
      exact S.ok (l.kids.cur _ hkk) _ (List.mem_of_getElem? hxr)
    generalize eT2 : kfps ks₁ ++ rest = T2 at N₁
    have sub2 : ∀ p ∈ rest, p ∈ T2 := fun p hp => eT2 ▸ List.mem_append_right _ hp
    have n1 := sub2 _ m1
    have ord2 : OrdIn T2 o := ord.mono sub2
    have g1 : ∀ p ∈ T2, p.1 ≠ dx := fun p hp => (l.off p (eT2 ▸ hp)).1
    have g2 : ∀ p ∈ T2, p.1 ≠ tp := fun p hp => (l.off p (eT2 ▸ hp)).2
    walk_at "mine steps"
    subst eT2
    all_goals (exact k _ _ _ _ _ _ (by k_asm) (by k_asm) l.kids mv ht2)
set_option maxRecDepth 100000 in
set_option maxHeartbeats 8000000 in
theorem mlast_r {cv : Array Value} {nc : Nat}  (B : Below A₀ base outer h₀) (F : Fr h₀ L s.heap m) (X : (Mine.hd.heap_39 w.params).In h₀) (N : News h₀ L s.heap ((dx, MD q ch tp o cur tc going tg) :: (tp, listOf tops nt) :: (kfps ks ++ rest))) (T : Top VW (looseW VW []) mean mg mb h₀) (hk : cs.kind = .function) (hd : dp + (D + 8) < recursionLimit) (hu : un + 8 * (D + 8) < cLine)
    (S : CurSpec w D C) (K : KidsIn C rest ks) (m1 : (x, instObj 506 dx) ∈ rest) (m2 : (ch, listOf cv nc) ∈ rest) (hcl : cv.size = ks.length) (hcv : ∀ (i : Nat) k, ks[i]? = some k → cv[i]? = some (.ref k.c)) (hts : tops.size = ks.length) (ord : OrdIn rest o) (hn : ks.length ≤ 1000) (offx : ∀ p ∈ kfps ks ++ rest, p.1 ≠ dx ∧ p.1 ≠ tp) (off3 : @Ne Nat dx tp) (k : ∀ t' t2 tops' ks' h' tk', Fr h₀ L h' m → News h₀ L h' ((dx, MD q ch tp o (greatOf (ks'.map KS.key) (ks'.map KS.key).length) t' 1 t2) :: (tp, listOf tops' nt) :: (kfps ks' ++ rest)) → KidsIn C rest ks' → Moved (fun _ k => lastAt k.R) ks ks' → TopsAre tops' (ks'.map KS.key) → Q (.none) { s with heap := h', toks := tk' }) :
    wpAny (model Challenge.rw_no0415_01.row.prog w) (ktrTop dp un gd cn cs L a ccd cl outer) (call (.ref 447) [.ref x]) Q E s := by
  have hcl2 : (cv.size : Int) = (ks.length : Int) := by omega
  generalize hTT : kfps ks ++ rest = TT at N
  have q1 : (x, instObj 506 dx) ∈ TT := hTT ▸ List.mem_append_right _ m1
  have q2 : (ch, listOf cv nc) ∈ TT := hTT ▸ List.mem_append_right _ m2
  have f1 : ∀ p ∈ TT, p.1 ≠ dx := fun p hp => (offx p (hTT ▸ hp)).1
  have f2 : ∀ p ∈ TT, p.1 ≠ tp := fun p hp => (offx p (hTT ▸ hp)).2
  walk_at "mine begin"
  walk_at "mine steps"
  rename Fr _ _ _ _ => FF
  rename News _ _ _ _ => NN
  rename IsRange _ _ _ _ _ _ _ _ => RR
  subst hTT
  refine iter_up (n := ks.length) (fun i m₁ news₁ => m₁ "self" = some (.ref x) ∧ ∃ ks₁ tops₁ tcc, news₁ = (dx, MD q ch tp o (-1) tcc going tg) :: (tp, listOf tops₁ nt) :: (kfps ks₁ ++ rest) ∧ LoopIn C rest (fun _ k => lastAt k.R) ks ks₁ tops tops₁ dx tp i) rfl RR (by omega) FF NN ⟨rfl, ks, tops, _, rfl, K, .zero hts, offx⟩ ?_ ?_
  · clear FF NN RR q1 q2 f1 f2
    rintro i t m₁ news₁ h tk I oI hi ⟨e1, ks₁, tops₁, tcc, rfl, l⟩ hne F₁ N₁
    obtain ⟨kc, hkc⟩ : ∃ kc, ks[i]? = some kc := ⟨_, List.getElem?_eq_getElem hi⟩
    have hk1 : ks₁[i]? = some kc := by rw [l.part.todo i (Nat.le_refl _)]; exact hkc
    have hmem := List.mem_of_getElem? hk1
    have hcv1 : cv[((i : Nat) : Int).toNat]? = some (.ref kc.c) := hcv i kc hkc
    have hne2 : ∀ p ∈ kfps ks₁ ++ rest, p.1 ≠ I := fun p hp => hne p (.tail _ (.tail _ hp))
    have hneD := hne _ (.head _)
    have hneT := hne _ (.tail _ (.head _))
    generalize hT1 : kfps ks₁ ++ rest = T1 at N₁
    have hC : C kc.fp T1 kc.c kc.kd kc.R kc.st := S.mono (l.kids.cur _ hmem) fun p hp => hT1 ▸ List.mem_append_right _ hp
    have hT : ∀ p ∈ kc.fp, p ∈ T1 := fun p hp => hT1 ▸ List.mem_append_left _ (mem_kfps hmem p hp)
    have q2 : (ch, listOf cv nc) ∈ T1 := hT1 ▸ List.mem_append_right _ m2
    have q1 : (x, instObj 506 dx) ∈ T1 := hT1 ▸ List.mem_append_right _ m1
    walk_at "mine steps"
    rename News _ _ _ _ => NN
    refine' kid_call (ext := [(dx, MD q ch tp o (-1) tcc going tg), (tp, listOf tops₁ nt), (I, oI)]) l.kids hk1 (fun h1 h2 => S.last (l.kids.cur _ hmem) h1 h2) ?B ?F ?X ?N ?T ?hk ?hd ?hu ?_ ?_ ?_
    walk_at "mine std"
    · intro p hp
      rw [hT1] at hp
      simp only [List.cons_append, List.nil_append, List.mem_cons] at hp ⊢
      rcases hp with h | h | h | h <;> simp [h]
    · intro p hp p' hp'
      have z := l.off p (List.mem_append_left _ (mem_kfps hmem p hp))
      have z2 := hne2 p (List.mem_append_left _ (mem_kfps hmem p hp))
      simp only [List.mem_cons, List.not_mem_nil, or_false] at hp'
      rcases hp' with rfl | rfl | rfl
      · exact fun e => z.1 e.symm
      · exact fun e => z.2 e.symm
      · exact fun e => z2 e.symm
    clear NN hC hT q2
    intro fp' h' tk' F' N' ha K2
    simp only [List.cons_append, List.nil_append] at N'
    obtain ⟨k2, hk2⟩ : ∃ k2 : KS, k2 = { kc with fp := fp', st := (fun _ k => lastAt k.R) i kc } := ⟨_, rfl⟩
    have hmem2 : k2 ∈ ks₁.set i k2 := List.mem_of_getElem? (List.getElem?_set_self (List.getElem?_eq_some_iff.mp hk1).1)
    have hl2 : ∀ p ∈ kfps (ks₁.set i k2) ++ rest, p.1 ≠ dx ∧ p.1 ≠ tp ∧ p.1 ≠ I := fun p hp => by
      rcases List.mem_append.mp hp with h | h
      · obtain ⟨p', hp', e⟩ := adr_set (k' := k2) hk1 (by rw [hk2]; exact ha) p h
        rw [← e]; exact ⟨(l.off p' (List.mem_append_left _ hp')).1, (l.off p' (List.mem_append_left _ hp')).2, hne2 p' (List.mem_append_left _ hp')⟩
      · exact ⟨(l.off p (List.mem_append_right _ h)).1, (l.off p (List.mem_append_right _ h)).2, hne2 p (List.mem_append_right _ h)⟩
    rw [← hk2] at N' K2
    generalize eT2 : (I, oI) :: (kfps (ks₁.set i k2) ++ rest) = T2 at N'
    have sub2 : ∀ p ∈ rest, p ∈ T2 := fun p hp => eT2 ▸ .tail _ (List.mem_append_right _ hp)
    have hC2 : C k2.fp T2 k2.c k2.kd k2.R k2.st := S.mono (K2.cur _ hmem2) sub2
    have hT2 : ∀ p ∈ k2.fp, p ∈ T2 := fun p hp => eT2 ▸ .tail _ (List.mem_append_left _ (mem_kfps hmem2 p hp))
    have n1 := sub2 _ m1
    have n2 := sub2 _ m2
    have hcv2 : cv[i]? = some (.ref k2.c) := by rw [hk2]; exact hcv i kc hkc
    have htz : tops₁.size = ks.length := l.part.sz
    have g1 : ∀ p ∈ T2, p.1 ≠ dx := fun p hp => by
      rw [← eT2] at hp
      rcases List.mem_cons.mp hp with rfl | h
      · exact fun e => hneD e.symm
      · exact (hl2 p h).1
    have g2 : ∀ p ∈ T2, p.1 ≠ tp := fun p hp => by
      rw [← eT2] at hp
      rcases List.mem_cons.mp hp with rfl | h
      · exact fun e => hneT e.symm
      · exact (hl2 p h).2.1
    walk_at "mine steps"
    rename Fr _ _ _ _ => FF
    rename News _ _ _ _ => NN
    rename TopV _ _ => VV
    rw [hk2] at VV
    refine TurnJ.next (.inl rfl) FF NN (.tail _ (.tail _ (eT2 ▸ .head _))) (fun p hp => ?_) (fun p hp => ?_) ⟨e1, ks₁.set i k2, _, tcc, rfl, by rw [hk2]; exact l.step hkc ha (hk2 ▸ K2) VV⟩
    · rcases List.mem_cons.mp hp with h | h
      · exact h ▸ .head _
      · rcases List.mem_cons.mp h with h | h
        · exact h ▸ .tail _ (.head _)
        · exact .tail _ (.tail _ (eT2 ▸ .tail _ h))
    · rcases List.mem_cons.mp hp with h | h
      · exact h ▸ hneD
      · rcases List.mem_cons.mp h with h | h
        · exact h ▸ hneT
        · exact (hl2 p h).2.2
  · clear FF NN RR q1 q2 f1 f2
    rintro m₁ news₁ h tk ⟨e1, ks₁, tops₁, tcc, rfl, l⟩ F₁ N₁
    obtain ⟨mv, ht2⟩ := l.part.all
    have hlen : (ks₁.map KS.key).length = ks.length := by rw [List.length_map]; exact mv.len
    have hok2 : ∀ e, some e ∈ ks₁.map KS.key → e.Ok := fun e he => by
      obtain ⟨kk, hkk, ek⟩ := List.mem_map.mp he
      unfold KS.key at ek
      obtain ⟨j, hj, ej⟩ := Option.bind_eq_some_iff.mp ek
      obtain ⟨xr, hxr, rfl⟩ := Option.map_eq_some_iff.mp ej
      exact S.ok (l.kids.cur _ hkk) _ (List.mem_of_getElem? hxr)
    generalize eT2 : kfps ks₁ ++ rest = T2 at N₁
    have sub2 : ∀ p ∈ rest, p ∈ T2 := fun p hp => eT2 ▸ List.mem_append_right _ hp
    have n1 := sub2 _ m1
    have ord2 : OrdIn T2 o := ord.mono sub2
    have g1 : ∀ p ∈ T2, p.1 ≠ dx := fun p hp => (l.off p (eT2 ▸ hp)).1
    have g2 : ∀ p ∈ T2, p.1 ≠ tp := fun p hp => (l.off p (eT2 ▸ hp)).2
    walk_at "mine steps"
    subst eT2
    all_goals (exact k _ _ _ _ _ _ (by k_asm) (by k_asm) l.kids mv ht2)
set_option maxRecDepth 100000 in
set_option maxHeartbeats 8000000 in
theorem mseek_r {cv : Array Value} {nc : Nat} {e : IK} {te : Tok} (B : Below A₀ base outer h₀) (F : Fr h₀ L s.heap m) (X : (Mine.hd.heap_39 w.params).In h₀) (N : News h₀ L s.heap ((dx, MD q ch tp o cur tc going tg) :: (tp, listOf tops nt) :: (kfps ks ++ rest))) (T : Top VW (looseW VW []) mean mg mb h₀) (hk : cs.kind = .function) (hd : dp + (D + 8) < recursionLimit) (hu : un + 8 * (D + 8) < cLine)
    (S : CurSpec w D C) (K : KidsIn C rest ks) (m1 : (x, instObj 506 dx) ∈ rest) (m2 : (ch, listOf cv nc) ∈ rest) (hcl : cv.size = ks.length) (hcv : ∀ (i : Nat) k, ks[i]? = some k → cv[i]? = some (.ref k.c)) (hts : tops.size = ks.length) (ord : OrdIn rest o) (hn : ks.length ≤ 1000) (offx : ∀ p ∈ kfps ks ++ rest, p.1 ≠ dx ∧ p.1 ≠ tp) (off3 : @Ne Nat dx tp) (he : e.Ok) (k : ∀ t' t2 tops' ks' h' tk', Fr h₀ L h' m → News h₀ L h' ((dx, MD q ch tp o (leastTo (ks'.map KS.key) (ks'.map KS.key).length) t' 0 t2) :: (tp, listOf tops' nt) :: (kfps ks' ++ rest)) → KidsIn C rest ks' → Moved (fun _ k => seekAt k.R e) ks ks' → TopsAre tops' (ks'.map KS.key) → Q (.none) { s with heap := h', toks := tk' }) :
    wpAny (model Challenge.rw_no0415_01.row.prog w) (ktrTop dp un gd cn cs L a ccd cl outer) (call (.ref 454) [.ref x, .bytes (ikb e) te]) Q E s := by
  have hcl2 : (cv.size : Int) = (ks.length : Int) := by omega
  generalize hTT : kfps ks ++ rest = TT at N
  have q1 : (x, instObj 506 dx) ∈ TT := hTT ▸ List.mem_append_right _ m1
  have q2 : (ch, listOf cv nc) ∈ TT := hTT ▸ List.mem_append_right _ m2
  have f1 : ∀ p ∈ TT, p.1 ≠ dx := fun p hp => (offx p (hTT ▸ hp)).1
  have f2 : ∀ p ∈ TT, p.1 ≠ tp := fun p hp => (offx p (hTT ▸ hp)).2
  walk_at "mine begin"
  walk_at "mine steps"
  rename Fr _ _ _ _ => FF
  rename News _ _ _ _ => NN
  rename IsRange _ _ _ _ _ _ _ _ => RR
  subst hTT
  refine iter_up (n := ks.length) (fun i m₁ news₁ => m₁ "self" = some (.ref x) ∧ m₁ "target" = some (.bytes (ikb e) te) ∧ ∃ ks₁ tops₁ tcc, news₁ = (dx, MD q ch tp o (-1) tcc going tg) :: (tp, listOf tops₁ nt) :: (kfps ks₁ ++ rest) ∧ LoopIn C rest (fun _ k => seekAt k.R e) ks ks₁ tops tops₁ dx tp i) rfl RR (by omega) FF NN ⟨rfl, rfl, ks, tops, _, rfl, K, .zero hts, offx⟩ ?_ ?_
  · clear FF NN RR q1 q2 f1 f2
    rintro i t m₁ news₁ h tk I oI hi ⟨e1, e2, ks₁, tops₁, tcc, rfl, l⟩ hne F₁ N₁
    obtain ⟨kc, hkc⟩ : ∃ kc, ks[i]? = some kc := ⟨_, List.getElem?_eq_getElem hi⟩
    have hk1 : ks₁[i]? = some kc := by rw [l.part.todo i (Nat.le_refl _)]; exact hkc
    have hmem := List.mem_of_getElem? hk1
    have hcv1 : cv[((i : Nat) : Int).toNat]? = some (.ref kc.c) := hcv i kc hkc
    have hne2 : ∀ p ∈ kfps ks₁ ++ rest, p.1 ≠ I := fun p hp => hne p (.tail _ (.tail _ hp))
    have hneD := hne _ (.head _)
    have hneT := hne _ (.tail _ (.head _))
    generalize hT1 : kfps ks₁ ++ rest = T1 at N₁
    have hC : C kc.fp T1 kc.c kc.kd kc.R kc.st := S.mono (l.kids.cur _ hmem) fun p hp => hT1 ▸ List.mem_append_right _ hp
    have hT : ∀ p ∈ kc.fp, p ∈ T1 := fun p hp => hT1 ▸ List.mem_append_left _ (mem_kfps hmem p hp)
    have q2 : (ch, listOf cv nc) ∈ T1 := hT1 ▸ List.mem_append_right _ m2
    have q1 : (x, instObj 506 dx) ∈ T1 := hT1 ▸ List.mem_append_right _ m1
    walk_at "mine steps"
    rename News _ _ _ _ => NN
    refine' kid_call (ext := [(dx, MD q ch tp o (-1) tcc going tg), (tp, listOf tops₁ nt), (I, oI)]) l.kids hk1 (fun h1 h2 => S.seek (l.kids.cur _ hmem) h1 h2 he) ?B ?F ?X ?N ?T ?hk ?hd ?hu ?_ ?_ ?_
    walk_at "mine std"
    · intro p hp
      rw [hT1] at hp
      simp only [List.cons_append, List.nil_append, List.mem_cons] at hp ⊢
      rcases hp with h | h | h | h <;> simp [h]
    · intro p hp p' hp'
      have z := l.off p (List.mem_append_left _ (mem_kfps hmem p hp))
      have z2 := hne2 p (List.mem_append_left _ (mem_kfps hmem p hp))
      simp only [List.mem_cons, List.not_mem_nil, or_false] at hp'
      rcases hp' with rfl | rfl | rfl
      · exact fun e => z.1 e.symm
      · exact fun e => z.2 e.symm
      · exact fun e => z2 e.symm
    clear NN hC hT q2
    intro fp' h' tk' F' N' ha K2
    simp only [List.cons_append, List.nil_append] at N'
    obtain ⟨k2, hk2⟩ : ∃ k2 : KS, k2 = { kc with fp := fp', st := (fun _ k => seekAt k.R e) i kc } := ⟨_, rfl⟩
    have hmem2 : k2 ∈ ks₁.set i k2 := List.mem_of_getElem? (List.getElem?_set_self (List.getElem?_eq_some_iff.mp hk1).1)
    have hl2 : ∀ p ∈ kfps (ks₁.set i k2) ++ rest, p.1 ≠ dx ∧ p.1 ≠ tp ∧ p.1 ≠ I := fun p hp => by
      rcases List.mem_append.mp hp with h | h
      · obtain ⟨p', hp', e⟩ := adr_set (k' := k2) hk1 (by rw [hk2]; exact ha) p h
        rw [← e]; exact ⟨(l.off p' (List.mem_append_left _ hp')).1, (l.off p' (List.mem_append_left _ hp')).2, hne2 p' (List.mem_append_left _ hp')⟩
      · exact ⟨(l.off p (List.mem_append_right _ h)).1, (l.off p (List.mem_append_right _ h)).2, hne2 p (List.mem_append_right _ h)⟩
    rw [← hk2] at N' K2
    generalize eT2 : (I, oI) :: (kfps (ks₁.set i k2) ++ rest) = T2 at N'
    have sub2 : ∀ p ∈ rest, p ∈ T2 := fun p hp => eT2 ▸ .tail _ (List.mem_append_right _ hp)
    have hC2 : C k2.fp T2 k2.c k2.kd k2.R k2.st := S.mono (K2.cur _ hmem2) sub2
    have hT2 : ∀ p ∈ k2.fp, p ∈ T2 := fun p hp => eT2 ▸ .tail _ (List.mem_append_left _ (mem_kfps hmem2 p hp))
    have n1 := sub2 _ m1
    have n2 := sub2 _ m2
    have hcv2 : cv[i]? = some (.ref k2.c) := by rw [hk2]; exact hcv i kc hkc
    have htz : tops₁.size = ks.length := l.part.sz
    have g1 : ∀ p ∈ T2, p.1 ≠ dx := fun p hp => by
      rw [← eT2] at hp
      rcases List.mem_cons.mp hp with rfl | h
      · exact fun e => hneD e.symm
      · exact (hl2 p h).1
    have g2 : ∀ p ∈ T2, p.1 ≠ tp := fun p hp => by
      rw [← eT2] at hp
      rcases List.mem_cons.mp hp with rfl | h
      · exact fun e => hneT e.symm
      · exact (hl2 p h).2.1
    walk_at "mine steps"
    rename Fr _ _ _ _ => FF
    rename News _ _ _ _ => NN
    rename TopV _ _ => VV
    rw [hk2] at VV
    refine TurnJ.next (.inl rfl) FF NN (.tail _ (.tail _ (eT2 ▸ .head _))) (fun p hp => ?_) (fun p hp => ?_) ⟨e1, e2, ks₁.set i k2, _, tcc, rfl, by rw [hk2]; exact l.step hkc ha (hk2 ▸ K2) VV⟩
    · rcases List.mem_cons.mp hp with h | h
      · exact h ▸ .head _
      · rcases List.mem_cons.mp h with h | h
        · exact h ▸ .tail _ (.head _)
        · exact .tail _ (.tail _ (eT2 ▸ .tail _ h))
    · rcases List.mem_cons.mp hp with h | h
      · exact h ▸ hneD
      · rcases List.mem_cons.mp h with h | h
        · exact h ▸ hneT
        · exact (hl2 p h).2.2
  · clear FF NN RR q1 q2 f1 f2
    rintro m₁ news₁ h tk ⟨e1, e2, ks₁, tops₁, tcc, rfl, l⟩ F₁ N₁
    obtain ⟨mv, ht2⟩ := l.part.all
    have hlen : (ks₁.map KS.key).length = ks.length := by rw [List.length_map]; exact mv.len
    have hok2 : ∀ e, some e ∈ ks₁.map KS.key → e.Ok := fun e he => by
      obtain ⟨kk, hkk, ek⟩ := List.mem_map.mp he
      unfold KS.key at ek
      obtain ⟨j, hj, ej⟩ := Option.bind_eq_some_iff.mp ek
      obtain ⟨xr, hxr, rfl⟩ := Option.map_eq_some_iff.mp ej
      exact S.ok (l.kids.cur _ hkk) _ (List.mem_of_getElem? hxr)
    generalize eT2 : kfps ks₁ ++ rest = T2 at N₁
    have sub2 : ∀ p ∈ rest, p ∈ T2 := fun p hp => eT2 ▸ List.mem_append_right _ hp
    have n1 := sub2 _ m1
    have ord2 : OrdIn T2 o := ord.mono sub2
    have g1 : ∀ p ∈ T2, p.1 ≠ dx := fun p hp => (l.off p (eT2 ▸ hp)).1
    have g2 : ∀ p ∈ T2, p.1 ≠ tp := fun p hp => (l.off p (eT2 ▸ hp)).2
    walk_at "mine steps"
    subst eT2
    all_goals (exact k _ _ _ _ _ _ (by k_asm) (by k_asm) l.kids mv ht2)
end
open PySem PySem.W PyProof.Rows
def placeOf (R : List Row) (n : Nat) : Option Nat := if n < R.length then some n else none
def ltLen (R : List Row) (e : IK) : Nat := (R.takeWhile fun x => decide (cmpI x.1 e < 0)).length
def eqLen (R : List Row) (e : IK) (i : Nat) : Nat := ((R.drop i).takeWhile fun x => decide (cmpI x.1 e = 0)).length
theorem seekAt_eq (R : List Row) (e : IK) : seekAt R e = placeOf R (ltLen R e) := rfl
/-- the first place behind a key, the equal ones passed -/
def afterAt (R : List Row) (e : IK) : Option Nat := placeOf R (ltLen R e + eqLen R e (ltLen R e))
theorem tw_at {p : Row → Bool} : ∀ {l : List Row} {j : Nat} {x : Row}, l[j]? = some x → j ≤ (l.takeWhile p).length → (j < (l.takeWhile p).length ↔ p x = true)
  | [], _, _, h, _ => by simp at h
  | a :: l, 0, x, h, _ => by
    simp only [List.getElem?_cons_zero, Option.some.injEq] at h
    subst h
    cases ha : p a <;> simp [List.takeWhile_cons, ha]
  | a :: l, j + 1, x, h, hj => by
    simp only [List.getElem?_cons_succ] at h
    cases ha : p a with
    | false => simp [List.takeWhile_cons, ha] at hj
    | true =>
      simp only [List.takeWhile_cons, ha, if_true, List.length_cons] at hj ⊢
      have := tw_at (p := p) h (by omega)
      rw [← this]; omega
theorem tw_le (p : Row → Bool) : ∀ l : List Row, (l.takeWhile p).length ≤ l.length
  | [] => Nat.le_refl _
  | a :: l => by
    cases ha : p a with
    | false => simp [List.takeWhile_cons, ha]
    | true => simp only [List.takeWhile_cons, ha, if_true, List.length_cons]; have := tw_le p l; omega
theorem eqLen_at {R : List Row} {e : IK} {i j : Nat} {x : Row} (h : R[j]? = some x) (hij : i ≤ j) (hj : j ≤ i + eqLen R e i) : (j < i + eqLen R e i ↔ cmpI x.1 e = 0) := by
  have h2 : (R.drop i)[j - i]? = some x := by rw [List.getElem?_drop, show i + (j - i) = j by omega]; exact h
  have := tw_at (p := fun x => decide (cmpI x.1 e = 0)) h2 (by unfold eqLen at hj; omega)
  simp only [decide_eq_true_eq] at this
  rw [← this]; unfold eqLen; omega
theorem ltLen_le (R : List Row) (e : IK) : ltLen R e ≤ R.length := tw_le _ _
theorem eqLen_le (R : List Row) (e : IK) (i : Nat) (hi : i ≤ R.length) : i + eqLen R e i ≤ R.length := by
  have := tw_le (fun x => decide (cmpI x.1 e = 0)) (R.drop i)
  rw [List.length_drop] at this
  unfold eqLen; omega
theorem placeOf_lt {R : List Row} {n : Nat} (h : n < R.length) : placeOf R n = some n := if_pos h
theorem placeOf_ge {R : List Row} {n : Nat} (h : ¬ n < R.length) : placeOf R n = none := if_neg h
theorem nextAt_eq (R : List Row) (i : Nat) : nextAt R i = placeOf R (i + 1) := rfl
section
variable {w : World} {dp un D : Nat} {gd : Option (List Code)} {cn : Str} {cs : Scope} {a f c : Addr} {ccd : Value} {cl : List (Str × Addr)} {outer : List Env} {A₀ A : Around} {base h₀ : Heap} {L : Addr} {m mg mb : Str → Option Value} {mean : ExcName → Option Value} {s : Shared} {news fp rest : Led}
  {E Q : Value → Shared → Prop} {C : CurP} {kd : Bool} {R : List Row} {i : Nat}
theorem use_valid_some (S : CurSpec w D C) (hC : C fp rest c kd R (some i)) (B : Below A₀ base outer h₀) (F : Fr h₀ L s.heap m) (X : (Mine.hd.heap_39 w.params).In h₀) (N : News h₀ L s.heap news) (T : Top VW (looseW VW []) mean mg mb h₀) (hk : cs.kind = .function) (hd : dp + D < recursionLimit) (hu : un + 8 * D < cLine)
    (hs : ∀ p ∈ fp ++ rest, p ∈ news) (k : ∀ h' tk', Fr h₀ L h' m → News h₀ L h' news → Q (.bool true) { s with heap := h', toks := tk' }) :
    wpAny (model Challenge.rw_no0415_01.row.prog w) (ktrTop dp un gd cn cs L a ccd cl outer) (call (.ref (adr kd .valid)) [.ref c]) Q E s := use_valid S hC B F X N T hk hd hu hs k
theorem use_valid_none (S : CurSpec w D C) (hC : C fp rest c kd R none) (B : Below A₀ base outer h₀) (F : Fr h₀ L s.heap m) (X : (Mine.hd.heap_39 w.params).In h₀) (N : News h₀ L s.heap news) (T : Top VW (looseW VW []) mean mg mb h₀) (hk : cs.kind = .function) (hd : dp + D < recursionLimit) (hu : un + 8 * D < cLine)
    (hs : ∀ p ∈ fp ++ rest, p ∈ news) (k : ∀ h' tk', Fr h₀ L h' m → News h₀ L h' news → Q (.bool false) { s with heap := h', toks := tk' }) :
    wpAny (model Challenge.rw_no0415_01.row.prog w) (ktrTop dp un gd cn cs L a ccd cl outer) (call (.ref (adr kd .valid)) [.ref c]) Q E s := use_valid S hC B F X N T hk hd hu hs k
end
section
variable {w : World} {dp un : Nat} {gd : Option (List Code)} {cn : Str} {cs : Scope} {a : Addr} {ccd : Value} {cl : List (Str × Addr)} {outer : List Env} {A₀ : Around} {base h₀ : Heap} {L : Addr} {m mg mb : Str → Option Value} {mean : ExcName → Option Value} {s : Shared} {rest : Led}
  {Q E : Value → Shared → Prop} {D : Nat} {C : CurP} {x dx ch tp o : Addr} {q : MP} {cur going : Int} {tc tg : Tok} {tops : Array Value} {nt : Nat} {ks : List KS} {kc : KS}
set_option maxRecDepth 100000 in
set_option maxHeartbeats 8000000 in
theorem sother_c {i : Nat} {ti : Tok} {cv : Array Value} {nc : Nat} {e : IK} {te : Tok} {pe : Bool} {E0 : Led} (S : CurSpec w D C) (hC : C kc.fp rest kc.c kc.kd kc.R kc.st) (hsub : ∀ p ∈ rest, p ∈ E0) (hoff : Off kc.fp E0) (he : e.Ok)
    (m1 : (x, instObj 506 dx) ∈ E0) (m0 : (dx, MD q ch tp o cur tc going tg) ∈ E0) (m2 : (ch, listOf cv nc) ∈ E0) (hcv : cv[i]? = some (.ref kc.c)) (ord : OrdIn E0 o) (hi : i ≤ 1000) :
    Calls w (D + 6) 461 [.ref x, .int (i : Int) ti, .bytes (ikb e) te, .bool pe] kc.fp E0 fun r fp' => r = .none ∧ sameAdr fp' kc.fp ∧ C fp' rest kc.c kc.kd kc.R (if pe then afterAt kc.R e else seekAt kc.R e) := by
  intro dp un gd cn cs a ccd cl outer A₀ base h₀ L m mg mb mean s Q E B F X N T hk hd hu k
  have hcv1 : cv[((i : Nat) : Int).toNat]? = some (.ref kc.c) := hcv
  have hst := (S.size hC).1
  have sub2 : ∀ p ∈ E0, p ∈ kc.fp ++ E0 := fun p hp => List.mem_append_right _ hp
  generalize eT0 : kc.fp ++ E0 = T0 at N sub2
  have q0 := sub2 _ m0
  have q1 := sub2 _ m1
  have q2 := sub2 _ m2
  have hT : ∀ p ∈ kc.fp, p ∈ T0 := fun p hp => eT0 ▸ List.mem_append_left _ hp
  have hC1 : C kc.fp T0 kc.c kc.kd kc.R kc.st := S.mono hC fun p hp => sub2 _ (hsub p hp)
  walk_at "mine begin"
  walk_at "mine steps"
  rename News _ _ _ _ => NN
  refine' Calls.use (S.seek (t := te) hC hsub hoff he) ?B ?F ?X ?N ?T ?hk ?hd ?hu ?_ ?_
  walk_at "mine std"
  · intro p hp; rw [eT0] at hp; exact hp
  clear NN hC1 hT q0 q1 q2 sub2
  subst eT0
  rintro r fp' h' tk' F' N' ⟨rfl, ha, hC'⟩
  have sub2 : ∀ p ∈ E0, p ∈ fp' ++ E0 := fun p hp => List.mem_append_right _ hp
  generalize eT0 : fp' ++ E0 = T0 at N' sub2
  have q0 := sub2 _ m0
  have q1 := sub2 _ m1
  have q2 := sub2 _ m2
  cases pe with
  | false =>
    walk_at "mine steps"
    subst eT0
    exact k _ _ _ _ (by k_asm) (by k_asm) ⟨rfl, ha, hC'⟩
  | true =>
    obtain ⟨duo, uo, dd, hh, tt, nn, o1, o2, o3, o4⟩ := id (ord.mono sub2)
    walk_at "mine steps"
    rename Fr _ _ _ _ => FF
    rename News _ _ _ _ => NN
    subst eT0
    clear q0 q1 q2 o1 o2 o3 o4
    refine While_inv (fun n m₁ news₁ => m₁ "self" = some (.ref x) ∧ m₁ "here" = some (.bytes (ikb e) te) ∧ m₁ "child" = some (.ref kc.c) ∧ ∃ (j : Nat) (fp₁ : Led), news₁ = fp₁ ++ E0 ∧ sameAdr fp₁ kc.fp ∧ C fp₁ rest kc.c kc.kd kc.R (placeOf kc.R j) ∧ ltLen kc.R e ≤ j ∧ j + n = ltLen kc.R e + eqLen kc.R e (ltLen kc.R e)) (n₀ := eqLen kc.R e (ltLen kc.R e)) FF NN ⟨rfl, rfl, rfl, _, fp', rfl, ha, hC', Nat.le_refl _, rfl⟩ ?_
    clear FF NN hC' ha sub2
    rintro n m₁ news₁ h₁ tk₁ F₁ N₁ ⟨e1, e2, e3, j, fp₁, rfl, ha, hC', hj1, hj2⟩
    have sub2 : ∀ p ∈ E0, p ∈ fp₁ ++ E0 := fun p hp => List.mem_append_right _ hp
    have hoff2 := hoff.adr ha
    have hjR := eqLen_le kc.R e _ (ltLen_le kc.R e)
    generalize eT0 : fp₁ ++ E0 = T0 at N₁ sub2
    have q0 := sub2 _ m0
    have q1 := sub2 _ m1
    have q2 := sub2 _ m2
    obtain ⟨duo, uo, dd, hh, tt, nn, o1, o2, o3, o4⟩ := id (ord.mono sub2)
    have ord2 := ord.mono sub2
    have hT : ∀ p ∈ fp₁, p ∈ T0 := fun p hp => eT0 ▸ List.mem_append_left _ hp
    by_cases hjl : j < kc.R.length
    · rw [placeOf_lt hjl] at hC'
      obtain ⟨xr, hx⟩ : ∃ xr, kc.R[j]? = some xr := ⟨_, List.getElem?_eq_getElem hjl⟩
      have hxo : xr.1.Ok := S.ok hC' _ (List.mem_of_getElem? hx)
      have hat := eqLen_at (e := e) hx hj1 (by omega)
      have hC1 : C fp₁ T0 kc.c kc.kd kc.R (some j) := S.mono hC' fun p hp => sub2 _ (hsub p hp)
      walk_at "mine steps"
      · have hat2 := hat.mpr (by assumption)
        refine' Calls.use (S.step hC' hsub hoff2) ?B ?F ?X ?N ?T ?hk ?hd ?hu ?_ ?_
        walk_at "mine std"
        · intro p hp; rw [eT0] at hp; exact hp
        rintro r fp₂ h' tk' F' N' ⟨rfl, ha2, hC2⟩
        walk_at "mine steps"
        rename Fr _ _ _ _ => FF
        rename News _ _ _ _ => NN
        exact WhileStep.intro (n' := n - 1) FF NN (by omega) ⟨e1, e2, e3, j + 1, fp₂, rfl, ha2.trans ha, by rw [← nextAt_eq]; exact hC2, by omega, by omega⟩
      · have hat2 := mt hat.mp (by assumption)
        have hn : j = ltLen kc.R e + eqLen kc.R e (ltLen kc.R e) := by omega
        subst eT0
        exact k _ _ _ _ (by k_asm) (by k_asm) ⟨rfl, ha, by simp only [if_true]; unfold afterAt; rw [← hn, placeOf_lt hjl]; exact hC'⟩
    · have hn : j = ltLen kc.R e + eqLen kc.R e (ltLen kc.R e) := by omega
      rw [placeOf_ge hjl] at hC'
      have hC1 : C fp₁ T0 kc.c kc.kd kc.R none := S.mono hC' fun p hp => sub2 _ (hsub p hp)
      walk_at "mine steps"
      subst eT0
      exact k _ _ _ _ (by k_asm) (by k_asm) ⟨rfl, ha, by simp only [if_true]; unfold afterAt; rw [← hn, placeOf_ge hjl]; exact hC'⟩
end
end Mine
namespace Mine
open PySem PySem.W PyProof.Rows
/-! the order of octets and of internal keys -/
theorem order_refl : ∀ a : List UInt8, Builtin.Bytes.order a a = .eq
  | [] => rfl
  | x :: a => by
    simp only [Builtin.Bytes.order]
    rw [if_neg (UInt8.lt_irrefl x), if_neg (UInt8.lt_irrefl x), order_refl a]
theorem order_eq : ∀ a b : List UInt8, Builtin.Bytes.order a b = .eq → a = b
  | [], [], _ => rfl
  | [], _ :: _, h => by cases h
  | _ :: _, [], h => by cases h
  | x :: a, y :: b, h => by
    simp only [Builtin.Bytes.order] at h
    by_cases h1 : x < y
    · rw [if_pos h1] at h; cases h
    · rw [if_neg h1] at h
      by_cases h2 : y < x
      · rw [if_pos h2] at h; cases h
      · rw [if_neg h2] at h
        have e := order_eq a b h
        have e2 : x = y := UInt8.le_antisymm (UInt8.not_lt.mp h2) (UInt8.not_lt.mp h1)
        rw [e, e2]
theorem order_trans : ∀ a b c : List UInt8, Builtin.Bytes.order a b = .lt → Builtin.Bytes.order b c = .lt → Builtin.Bytes.order a c = .lt
  | [], [], _, h, _ => by cases h
  | [], _ :: _, [], _, h => by cases h
  | [], _ :: _, _ :: _, _, _ => rfl
  | _ :: _, [], _, h, _ => by cases h
  | _ :: _, _ :: _, [], _, h => by cases h
  | x :: a, y :: b, z :: c, h, g => by
    simp only [Builtin.Bytes.order] at h g ⊢
    by_cases h1 : x < y
    · by_cases g1 : y < z
      · rw [if_pos (UInt8.lt_trans h1 g1)]
      · rw [if_neg g1] at g
        by_cases g2 : z < y
        · rw [if_pos g2] at g; cases g
        · have e : y = z := UInt8.le_antisymm (UInt8.not_lt.mp g2) (UInt8.not_lt.mp g1)
          rw [← e, if_pos h1]
    · rw [if_neg h1] at h
      by_cases h2 : y < x
      · rw [if_pos h2] at h; cases h
      · rw [if_neg h2] at h
        have e : x = y := UInt8.le_antisymm (UInt8.not_lt.mp h2) (UInt8.not_lt.mp h1)
        rw [e]
        by_cases g1 : y < z
        · rw [if_pos g1]
        · rw [if_neg g1] at g ⊢
          by_cases g2 : z < y
          · rw [if_pos g2] at g; cases g
          · rw [if_neg g2] at g ⊢
            exact order_trans a b c h g
theorem ltB_iff (a b : Array UInt8) : ltB a b = true ↔ Builtin.Bytes.order a.toList b.toList = .lt := by
  unfold ltB; cases Builtin.Bytes.order a.toList b.toList <;> decide
theorem ltB_irrefl (a : Array UInt8) : ltB a a = false := by unfold ltB; rw [order_refl]; rfl
theorem ltB_trans {a b c : Array UInt8} (h : ltB a b = true) (g : ltB b c = true) : ltB a c = true :=
  (ltB_iff _ _).mpr (order_trans _ _ _ ((ltB_iff _ _).mp h) ((ltB_iff _ _).mp g))
theorem ltB_asymm {a b : Array UInt8} (h : ltB a b = true) : ltB b a = false := by
  cases g : ltB b a with
  | false => rfl
  | true => have := ltB_trans h g; rw [ltB_irrefl] at this; cases this
theorem ltB_conn {a b : Array UInt8} (h : ltB a b = false) (g : ltB b a = false) : a = b := by
  apply Array.toList_inj.mp
  apply order_eq
  cases e : Builtin.Bytes.order a.toList b.toList with
  | eq => rfl
  | lt => unfold ltB at h; rw [e] at h; cases h
  | gt =>
    have := order_swap a.toList b.toList
    rw [e] at this
    unfold ltB at g
    rw [← this] at g
    cases g
theorem ltB_le_trans {a b c : Array UInt8} (h : ltB b a = false) (g : ltB c b = false) : ltB c a = false := by
  cases e : ltB c a with
  | false => rfl
  | true =>
    cases f : ltB a b with
    | true => have := ltB_trans e f; rw [this] at g; cases g
    | false => have := ltB_conn h f; rw [this, e] at g; cases g
theorem cmpI_lt (a b : IK) : cmpI a b < 0 ↔ ltB a.u b.u = true ∨ (a.u = b.u ∧ b.tag < a.tag) := by
  unfold cmpI
  by_cases h1 : ltB a.u b.u = true
  · simp [h1]
  · by_cases h2 : ltB b.u a.u = true
    · rw [if_neg h1, if_pos h2]
      have : a.u ≠ b.u := fun e => by rw [e, ltB_irrefl] at h2; cases h2
      simp [h1, this]
    · have e : a.u = b.u := ltB_conn (by simpa using h1) (by simpa using h2)
      rw [if_neg h1, if_neg h2]
      simp only [e, ltB_irrefl, true_and]
      split
      · simp_all
      · split <;> simp_all
theorem cmpI_eq (a b : IK) : cmpI a b = 0 ↔ a.u = b.u ∧ a.tag = b.tag := by
  unfold cmpI
  by_cases h1 : ltB a.u b.u = true
  · have : a.u ≠ b.u := fun e => by rw [e, ltB_irrefl] at h1; cases h1
    simp [h1, this]
  · by_cases h2 : ltB b.u a.u = true
    · rw [if_neg h1, if_pos h2]
      have : a.u ≠ b.u := fun e => by rw [e, ltB_irrefl] at h2; cases h2
      simp [this]
    · have e : a.u = b.u := ltB_conn (by simpa using h1) (by simpa using h2)
      rw [if_neg h1, if_neg h2]
      simp only [e, true_and]
      split
      · constructor <;> intro <;> omega
      · split
        · constructor <;> intro <;> omega
        · constructor <;> intro <;> omega
theorem cmpI_gt (a b : IK) : 0 < cmpI a b ↔ cmpI b a < 0 := by
  have h1 := cmpI_lt a b
  have h2 := cmpI_lt b a
  have h3 := cmpI_eq a b
  constructor
  · intro h
    rw [h2]
    by_cases e1 : ltB b.u a.u = true
    · exact .inl e1
    · right
      by_cases e2 : ltB a.u b.u = true
      · have := h1.mpr (.inl e2); omega
      · have e : a.u = b.u := ltB_conn (by simpa using e2) (by simpa using e1)
        refine ⟨e.symm, ?_⟩
        by_cases g1 : b.tag < a.tag
        · have := h1.mpr (.inr ⟨e, g1⟩); omega
        · by_cases g2 : a.tag = b.tag
          · have := h3.mpr ⟨e, g2⟩; omega
          · omega
  · intro h
    have h' := h2.mp h
    have n1 : ¬ cmpI a b < 0 := fun g => by
      rcases h1.mp g with g | ⟨g, g'⟩ <;> rcases h' with k | ⟨k, k'⟩
      · rw [ltB_asymm g] at k; cases k
      · rw [k, ltB_irrefl] at g; cases g
      · rw [g, ltB_irrefl] at k; cases k
      · omega
    have n2 : ¬ cmpI a b = 0 := fun g => by
      have g := h3.mp g
      rcases h' with k | ⟨k, k'⟩
      · rw [g.1, ltB_irrefl] at k; cases k
      · omega
    omega
theorem cmpI_self (a : IK) : cmpI a a = 0 := (cmpI_eq a a).mpr ⟨rfl, rfl⟩
theorem cmpI_le (a b : IK) : cmpI a b ≤ 0 ↔ ltB b.u a.u = false ∧ (a.u = b.u → b.tag ≤ a.tag) := by
  have h := cmpI_gt a b
  rw [cmpI_lt] at h
  have : cmpI a b ≤ 0 ↔ ¬ (ltB b.u a.u = true ∨ (b.u = a.u ∧ a.tag < b.tag)) := by rw [← h]; omega
  rw [this]
  simp only [not_or, Bool.not_eq_true, not_and, Int.not_lt]
  constructor
  · rintro ⟨x, y⟩; exact ⟨x, fun e => y e.symm⟩
  · rintro ⟨x, y⟩; exact ⟨x, fun e => y e.symm⟩
theorem cmpI_trans {a b c : IK} (h : cmpI a b ≤ 0) (g : cmpI b c ≤ 0) : cmpI a c ≤ 0 := by
  rw [cmpI_le] at h g ⊢
  refine ⟨ltB_le_trans h.1 g.1, fun e => ?_⟩
  have e1 : a.u = b.u := by
    refine ltB_conn ?_ h.1
    rw [e]; exact g.1
  have := h.2 e1
  have := g.2 (e1 ▸ e)
  omega
theorem cmpI_lt_trans {a b c : IK} (h : cmpI a b < 0) (g : cmpI b c ≤ 0) : cmpI a c < 0 := by
  rcases Int.lt_or_le (cmpI a c) 0 with k | k
  · exact k
  · exfalso
    have k2 : cmpI c a ≤ 0 := by have := cmpI_gt c a; omega
    have := cmpI_trans g k2
    have := cmpI_gt b a
    omega
theorem cmpI_trans_lt {a b c : IK} (h : cmpI a b ≤ 0) (g : cmpI b c < 0) : cmpI a c < 0 := by
  rcases Int.lt_or_le (cmpI a c) 0 with k | k
  · exact k
  · exfalso
    have k2 : cmpI c a ≤ 0 := by have := cmpI_gt c a; omega
    have := cmpI_trans k2 h
    have := cmpI_gt c b
    omega
open PySem PySem.W PyProof.Rows
abbrev MZ := List (Row × Nat)
/-- one entry stands ahead of another in the merged list -/
def Zord (a b : Row × Nat) : Prop := cmpI a.1.1 b.1.1 < 0 ∨ (cmpI a.1.1 b.1.1 = 0 ∧ a.2 ≤ b.2)
def rowsOf (Z : MZ) (k : Nat) : List Row := (Z.filter fun z => z.2 == k).map (·.1)
def cnt (Z : MZ) (k j : Nat) : Nat := (rowsOf (Z.take j) k).length
def befOf (n : Nat) : Option Nat := if n = 0 then none else some (n - 1)
theorem rowsOf_append (A B : MZ) (k : Nat) : rowsOf (A ++ B) k = rowsOf A k ++ rowsOf B k := by simp [rowsOf]
theorem rowsOf_split (Z : MZ) (k j : Nat) : rowsOf Z k = rowsOf (Z.take j) k ++ rowsOf (Z.drop j) k := by rw [← rowsOf_append, List.take_append_drop]
theorem mem_rowsOf {Z : MZ} {k : Nat} {x : Row} : x ∈ rowsOf Z k ↔ (x, k) ∈ Z := by
  unfold rowsOf
  simp only [List.mem_map, List.mem_filter, beq_iff_eq]
  constructor
  · rintro ⟨⟨y, b⟩, ⟨h, rfl⟩, rfl⟩; exact h
  · exact fun h => ⟨(x, k), ⟨h, rfl⟩, rfl⟩
theorem cnt_le (Z : MZ) (k j : Nat) : cnt Z k j ≤ (rowsOf Z k).length := by rw [rowsOf_split Z k j, List.length_append]; unfold cnt; omega
theorem key_fwd (Z : MZ) (k j : Nat) : ((placeOf (rowsOf Z k) (cnt Z k j)).bind fun i => ((rowsOf Z k)[i]?).map (·.1)) = ((rowsOf (Z.drop j) k).head?).map (·.1) := by
  have e : (rowsOf Z k)[cnt Z k j]? = (rowsOf (Z.drop j) k).head? := by
    rw [rowsOf_split Z k j, List.getElem?_append_right (by unfold cnt; exact Nat.le_refl _)]
    unfold cnt
    rw [Nat.sub_self, List.head?_eq_getElem?]
  unfold placeOf
  by_cases h : cnt Z k j < (rowsOf Z k).length
  · rw [if_pos h, Option.bind_some, e]
  · rw [if_neg h, Option.bind_none, ← e, List.getElem?_eq_none (Nat.le_of_not_lt h), Option.map_none]
theorem key_bwd (Z : MZ) (k j : Nat) : ((befOf (cnt Z k j)).bind fun i => ((rowsOf Z k)[i]?).map (·.1)) = ((rowsOf (Z.take j) k).getLast?).map (·.1) := by
  unfold befOf
  by_cases h : cnt Z k j = 0
  · rw [if_pos h, Option.bind_none]
    have : rowsOf (Z.take j) k = [] := List.eq_nil_of_length_eq_zero h
    rw [this]; rfl
  · rw [if_neg h, Option.bind_some]
    congr 1
    have hlt : cnt Z k j - 1 < (rowsOf (Z.take j) k).length := by unfold cnt at *; omega
    rw [rowsOf_split Z k j, List.getElem?_append_left hlt, List.getLast?_eq_getElem?]
    rfl
theorem leastTo_is {keys : List (Option IK)} {b : Nat} {e : IK} (hb : keyAt keys b = some e) (lo : ∀ i : Nat, i < b → ∀ f, keyAt keys i = some f → cmpI e f < 0) :
    ∀ n, b < n → (∀ i : Nat, b < i → i < n → ∀ f, keyAt keys i = some f → ¬ cmpI f e < 0) → leastTo keys n = b
  | 0, h, _ => absurd h (Nat.not_lt_zero _)
  | n + 1, h, hi => by
    rw [leastTo]
    by_cases e1 : b = n
    · subst e1
      rw [hb]
      simp only
      split
      · rfl
      · rename_i h0
        rcases leastTo_spec keys b with s | ⟨s1, s2, f, s3⟩
        · exact absurd s h0
        · rw [s3]
          simp only
          have : leastTo keys b = ((leastTo keys b).toNat : Int) := by omega
          rw [this] at s3
          rw [if_pos (lo _ (by omega) f s3)]
    · have ih := leastTo_is hb lo n (by omega) fun i h1 h2 => hi i h1 (by omega)
      cases he : keyAt keys (n : Int) with
      | none => exact ih
      | some f =>
        simp only
        rw [ih, if_neg (by omega), hb]
        simp only
        rw [if_neg (hi n (by omega) (by omega) f he)]
theorem leastTo_neg {keys : List (Option IK)} : ∀ n, (∀ i : Nat, i < n → keyAt keys i = none) → leastTo keys n = -1
  | 0, _ => rfl
  | n + 1, h => by
    rw [leastTo, h n (by omega)]
    exact leastTo_neg n fun i hi => h i (by omega)
theorem greatOf_spec2 (keys : List (Option IK)) : ∀ c, c ≤ keys.length → greatOf keys c < 0 ∨ (((keys.length - c : Nat) : Int) ≤ greatOf keys c ∧ ∃ f, keyAt keys (greatOf keys c) = some f)
  | 0, _ => .inl (by unfold greatOf; decide)
  | c + 1, hc => by
    have ih := greatOf_spec2 keys c (by omega)
    have up : greatOf keys c < 0 ∨ (((keys.length - (c + 1) : Nat) : Int) ≤ greatOf keys c ∧ ∃ f, keyAt keys (greatOf keys c) = some f) := by
      rcases ih with h | ⟨a, b⟩
      · exact .inl h
      · exact .inr ⟨by omega, b⟩
    unfold greatOf
    cases he : keyAt keys ((keys.length - (c + 1) : Nat) : Int) with
    | none => exact up
    | some e =>
      have here : ((keys.length - (c + 1) : Nat) : Int) < 0 ∨ (((keys.length - (c + 1) : Nat) : Int) ≤ ((keys.length - (c + 1) : Nat) : Int) ∧ ∃ f, keyAt keys ((keys.length - (c + 1) : Nat) : Int) = some f) := .inr ⟨by omega, e, he⟩
      simp only
      split
      · exact here
      · split
        · exact up
        · split
          · exact here
          · exact up
theorem greatOf_is {keys : List (Option IK)} {b : Nat} {e : IK} (hb : keyAt keys b = some e) (hi : ∀ i : Nat, b < i → ∀ f, keyAt keys i = some f → 0 < cmpI e f) :
    ∀ c, c ≤ keys.length → keys.length - c ≤ b → b < keys.length → (∀ i : Nat, i < b → keys.length - c ≤ i → ∀ f, keyAt keys i = some f → ¬ 0 < cmpI f e) → greatOf keys c = b
  | 0, _, h, h', _ => by omega
  | c + 1, hc, h, h', lo => by
    rw [greatOf]
    by_cases e1 : b = keys.length - (c + 1)
    · rw [← e1, hb]
      simp only
      split
      · rfl
      · rename_i h0
        rcases greatOf_spec2 keys c (by omega) with s | ⟨s1, f, s3⟩
        · exact absurd s h0
        · rw [s3]
          simp only
          have : greatOf keys c = ((greatOf keys c).toNat : Int) := by omega
          rw [this] at s3
          rw [if_pos (hi _ (by omega) f s3)]
    · have ih := greatOf_is hb hi c (by omega) (by omega) h' fun i h1 h2 => lo i h1 (by omega)
      cases he : keyAt keys ((keys.length - (c + 1) : Nat) : Int) with
      | none => exact ih
      | some f =>
        simp only
        rw [ih, if_neg (by omega), hb]
        simp only
        rw [if_neg (lo _ (by omega) (by omega) f he)]
theorem greatOf_neg {keys : List (Option IK)} (h : ∀ i : Nat, keyAt keys i = none) : ∀ c, greatOf keys c = -1
  | 0 => rfl
  | c + 1 => by
    rw [greatOf, h]
    exact greatOf_neg h c
theorem keyAt_of {keys : List (Option IK)} {n : Nat} {g : Nat → Option IK} (hn : keys.length = n) (hk : ∀ i, i < n → keys[i]? = some (g i)) (i : Nat) : keyAt keys (i : Int) = if i < n then g i else none := by
  rw [keyAt_nat]
  by_cases h : i < n
  · rw [if_pos h, hk i h]; rfl
  · rw [if_neg h, List.getElem?_eq_none (by omega)]; rfl
/-- ahead: the least of the children's keys is the next entry of the merged list -/
theorem fwd_least {keys : List (Option IK)} {n j : Nat} {Z : MZ} (hn : keys.length = n) (hk : ∀ i, i < n → keys[i]? = some (((rowsOf (Z.drop j) i).head?).map (·.1))) (hs : Z.Pairwise Zord) (hz : ∀ z ∈ Z, z.2 < n) :
    leastTo keys n = match Z[j]? with | none => -1 | some z => (z.2 : Int) := by
  have hat := keyAt_of hn hk
  cases hj : Z[j]? with
  | none =>
    have hd : Z.drop j = [] := List.drop_eq_nil_of_le (by have := List.getElem?_eq_none_iff.mp hj; omega)
    refine leastTo_neg n fun i hi => ?_
    rw [hat, if_pos hi, hd]; rfl
  | some z =>
    have hl := (List.getElem?_eq_some_iff.mp hj).1
    have hd : Z.drop j = z :: Z.drop (j + 1) := by rw [List.drop_eq_getElem_cons hl, (List.getElem?_eq_some_iff.mp hj).2]
    have hp : (z :: Z.drop (j + 1)).Pairwise Zord := hd ▸ hs.sublist (List.drop_sublist j Z)
    have hp1 := (List.pairwise_cons.mp hp).1
    have hself : rowsOf (Z.drop j) z.2 = z.1 :: rowsOf (Z.drop (j + 1)) z.2 := by
      rw [hd]; unfold rowsOf; simp
    have hoth : ∀ i, i ≠ z.2 → rowsOf (Z.drop j) i = rowsOf (Z.drop (j + 1)) i := fun i hi => by
      rw [hd]; unfold rowsOf; rw [List.filter_cons, if_neg (by simpa using fun e => hi e.symm)]
    have hz2 : z.2 < n := hz z (List.mem_of_getElem? hj)
    have hof : ∀ i f, i ≠ z.2 → keyAt keys (i : Int) = some f → ∃ y : Row × Nat, y ∈ Z.drop (j + 1) ∧ y.1.1 = f ∧ y.2 = i := fun i f hi hf => by
      rw [hat] at hf
      by_cases hin : i < n
      · rw [if_pos hin, hoth i hi] at hf
        obtain ⟨y, hy, rfl⟩ := Option.map_eq_some_iff.mp hf
        exact ⟨(y, i), mem_rowsOf.mp (List.mem_of_mem_head? hy), rfl, rfl⟩
      · rw [if_neg hin] at hf; cases hf
    show leastTo keys n = ((z.2 : Nat) : Int)
    refine leastTo_is (e := z.1.1) ?_ ?_ n hz2 ?_
    · rw [hat, if_pos hz2, hself]; rfl
    · intro i hi f hf
      obtain ⟨y, hy, rfl, rfl⟩ := hof i f (by omega) hf
      rcases hp1 y hy with h | ⟨_, h⟩
      · exact h
      · omega
    · intro i hi _ f hf
      obtain ⟨y, hy, rfl, rfl⟩ := hof i f (by omega) hf
      have := cmpI_gt z.1.1 y.1.1
      rcases hp1 y hy with h | ⟨h, _⟩ <;> omega
/-- back: the greatest of the children's keys is the entry before -/
theorem bwd_great {keys : List (Option IK)} {n j : Nat} {Z : MZ} (hn : keys.length = n) (hk : ∀ i, i < n → keys[i]? = some (((rowsOf (Z.take j) i).getLast?).map (·.1))) (hs : Z.Pairwise Zord) (hz : ∀ z ∈ Z, z.2 < n) (hj : j ≤ Z.length) :
    greatOf keys n = match (befOf j).bind fun i => Z[i]? with | none => -1 | some z => (z.2 : Int) := by
  have hat := keyAt_of hn hk
  cases j with
  | zero =>
    refine greatOf_neg (fun i => ?_) n
    rw [hat, List.take_zero]; split <;> rfl
  | succ j =>
    have hl : j < Z.length := by omega
    obtain ⟨z, hj2⟩ : ∃ z, Z[j]? = some z := ⟨_, List.getElem?_eq_getElem hl⟩
    have hd : Z.take (j + 1) = Z.take j ++ [z] := by rw [List.take_add_one, hj2]; rfl
    have hp : (Z.take j ++ [z]).Pairwise Zord := hd ▸ hs.sublist (List.take_sublist (j + 1) Z)
    have hp1 : ∀ y ∈ Z.take j, Zord y z := fun y hy => (List.pairwise_append.mp hp).2.2 y hy z (.head _)
    have hself : rowsOf (Z.take (j + 1)) z.2 = rowsOf (Z.take j) z.2 ++ [z.1] := by
      rw [hd, rowsOf_append]; unfold rowsOf; simp
    have hoth : ∀ i, i ≠ z.2 → rowsOf (Z.take (j + 1)) i = rowsOf (Z.take j) i := fun i hi => by
      rw [hd, rowsOf_append]; unfold rowsOf
      have : ([z].filter fun z => z.2 == i) = [] := by simpa using fun e => hi e.symm
      rw [this]; simp
    have hz2 : z.2 < n := hz z (List.mem_of_getElem? hj2)
    have hof : ∀ i f, i ≠ z.2 → keyAt keys (i : Int) = some f → ∃ y : Row × Nat, y ∈ Z.take j ∧ y.1.1 = f ∧ y.2 = i := fun i f hi hf => by
      rw [hat] at hf
      by_cases hin : i < n
      · rw [if_pos hin, hoth i hi] at hf
        obtain ⟨y, hy, rfl⟩ := Option.map_eq_some_iff.mp hf
        exact ⟨(y, i), mem_rowsOf.mp (List.mem_of_getLast? hy), rfl, rfl⟩
      · rw [if_neg hin] at hf; cases hf
    have hb : (befOf (j + 1)).bind (fun i => Z[i]?) = some z := by
      unfold befOf; rw [if_neg (by omega), Option.bind_some, Nat.add_sub_cancel, hj2]
    rw [hb]
    show greatOf keys n = ((z.2 : Nat) : Int)
    refine greatOf_is (e := z.1.1) ?_ ?_ n (by omega) (by omega) (by omega) ?_
    · rw [hat, if_pos hz2, hself, List.getLast?_append]; rfl
    · intro i hi f hf
      obtain ⟨y, hy, rfl, rfl⟩ := hof i f (by omega) hf
      have := cmpI_gt z.1.1 y.1.1
      rcases hp1 y hy with h | ⟨_, h⟩ <;> omega
    · intro i hi _ f hf
      obtain ⟨y, hy, rfl, rfl⟩ := hof i f (by omega) hf
      rcases hp1 y hy with h | ⟨h, _⟩ <;> omega
/-- a run that holds up to a place and not from there on -/
theorem tw_split {α : Type} {p : α → Bool} {A B : List α} (ha : ∀ x ∈ A, p x = true) (hb : ∀ x ∈ B, p x = false) : (A ++ B).takeWhile p = A := by
  rw [List.takeWhile_append_of_pos ha]
  cases B with
  | nil => simp
  | cons b B => rw [List.takeWhile_cons, hb b (.head _)]; simp
theorem Zord.le {a b : Row × Nat} (h : Zord a b) : cmpI a.1.1 b.1.1 ≤ 0 := by rcases h with h | ⟨h, _⟩ <;> omega
/-- a sorted list parts at a key -/
theorem sorted_cut {Z : MZ} (hs : Z.Pairwise Zord) (e : IK) : ∃ j, j ≤ Z.length ∧ (∀ z ∈ Z.take j, cmpI z.1.1 e < 0) ∧ (∀ z ∈ Z.drop j, ¬ cmpI z.1.1 e < 0) := by
  induction Z with
  | nil => exact ⟨0, by simp⟩
  | cons z Z ih =>
    have h1 := List.pairwise_cons.mp hs
    by_cases hz : cmpI z.1.1 e < 0
    · obtain ⟨j, a, b, c⟩ := ih h1.2
      refine ⟨j + 1, by simpa using a, fun y hy => ?_, by simpa using c⟩
      rw [List.take_succ_cons] at hy
      rcases List.mem_cons.mp hy with rfl | hy
      · exact hz
      · exact b y hy
    · refine ⟨0, by simp, by simp, fun y hy => ?_⟩
      rcases List.mem_cons.mp hy with rfl | hy
      · exact hz
      · intro g
        exact hz (cmpI_trans_lt (h1.1 y hy).le g)
theorem ltLen_all {Z : MZ} {e : IK} {j : Nat} (ha : ∀ z ∈ Z.take j, cmpI z.1.1 e < 0) (hb : ∀ z ∈ Z.drop j, ¬ cmpI z.1.1 e < 0) (hj : j ≤ Z.length) : ltLen (Z.map (·.1)) e = j := by
  unfold ltLen
  rw [← List.take_append_drop j Z, List.map_append, tw_split]
  · rw [List.length_map, List.length_take]; omega
  · intro x hx
    obtain ⟨z, hz, rfl⟩ := List.mem_map.mp hx
    simpa using ha z hz
  · intro x hx
    obtain ⟨z, hz, rfl⟩ := List.mem_map.mp hx
    have := hb z hz
    simp only [decide_eq_false_iff_not]; exact this
theorem ltLen_of {Z : MZ} {e : IK} {j k : Nat} (ha : ∀ z ∈ Z.take j, z.2 = k → cmpI z.1.1 e < 0) (hb : ∀ z ∈ Z.drop j, z.2 = k → ¬ cmpI z.1.1 e < 0) : ltLen (rowsOf Z k) e = cnt Z k j := by
  unfold ltLen cnt
  rw [rowsOf_split Z k j, tw_split]
  · intro x hx
    simpa using ha (x, k) (mem_rowsOf.mp hx) rfl
  · intro x hx
    have := hb (x, k) (mem_rowsOf.mp hx) rfl
    simp only [decide_eq_false_iff_not]; exact this
/-- a key is sought in each of the children -/
theorem seek_kid {Z : MZ} (hs : Z.Pairwise Zord) (e : IK) (k : Nat) : ltLen (rowsOf Z k) e = cnt Z k (ltLen (Z.map (·.1)) e) := by
  obtain ⟨j, hj, a, b⟩ := sorted_cut hs e
  rw [ltLen_all a b hj]
  exact ltLen_of (fun z hz _ => a z hz) fun z hz _ => b z hz
/-- a later child, at a turning -/
theorem turn_later {Z : MZ} (hs : Z.Pairwise Zord) {j k : Nat} {z : Row × Nat} (hj : Z[j]? = some z) (hk : z.2 < k) : ltLen (rowsOf Z k) z.1.1 = cnt Z k j := by
  have hl := (List.getElem?_eq_some_iff.mp hj).1
  have hd : Z.drop j = z :: Z.drop (j + 1) := by rw [List.drop_eq_getElem_cons hl, (List.getElem?_eq_some_iff.mp hj).2]
  have hz : Z = Z.take j ++ z :: Z.drop (j + 1) := by rw [← hd, List.take_append_drop]
  rw [hz] at hs
  have hp := List.pairwise_append.mp hs
  have hp1 := (List.pairwise_cons.mp hp.2.1).1
  refine ltLen_of (fun y hy ey => ?_) fun y hy ey => ?_
  · have := hp.2.2 y hy z (.head _)
    rcases this with h | ⟨_, h⟩
    · exact h
    · exfalso; omega
  · rw [hd] at hy
    rcases List.mem_cons.mp hy with rfl | hy
    · omega
    · have := (hp1 y hy).le
      have := cmpI_gt z.1.1 y.1.1
      omega
/-- an earlier child, at a turning -/
theorem turn_earlier {Z : MZ} (hs : Z.Pairwise Zord) {j k : Nat} {z : Row × Nat} (hj : Z[j]? = some z) (hk : k < z.2) :
    ltLen (rowsOf Z k) z.1.1 + eqLen (rowsOf Z k) z.1.1 (ltLen (rowsOf Z k) z.1.1) = cnt Z k j := by
  have hl := (List.getElem?_eq_some_iff.mp hj).1
  have hd : Z.drop j = z :: Z.drop (j + 1) := by rw [List.drop_eq_getElem_cons hl, (List.getElem?_eq_some_iff.mp hj).2]
  have hz : Z = Z.take j ++ z :: Z.drop (j + 1) := by rw [← hd, List.take_append_drop]
  have hs0 := hs
  rw [hz] at hs
  have hp := List.pairwise_append.mp hs
  have hp1 := (List.pairwise_cons.mp hp.2.1).1
  obtain ⟨i, hi, a, b⟩ := sorted_cut hs0 z.1.1
  have e1 : ltLen (rowsOf Z k) z.1.1 = cnt Z k i := ltLen_of (fun y hy _ => a y hy) fun y hy _ => b y hy
  have hij : i ≤ j := by
    apply Nat.le_of_not_lt
    intro h
    have : z ∈ Z.take i := by
      rw [List.mem_take_iff_getElem]
      exact ⟨j, by omega, (List.getElem?_eq_some_iff.mp hj).2⟩
    have := a z this
    rw [cmpI_self] at this
    omega
  rw [e1]
  unfold eqLen cnt
  have e2 : (rowsOf Z k).drop (rowsOf (Z.take i) k).length = rowsOf (Z.drop i) k := by
    rw [rowsOf_split Z k i, List.drop_left]
  have e3 : Z.drop i = (Z.take j).drop i ++ Z.drop j := by
    rw [List.drop_take]
    have : Z.drop j = (Z.drop i).drop (j - i) := by rw [List.drop_drop]; congr 1; omega
    rw [this, List.take_append_drop]
  have e4 : Z.take j = Z.take i ++ (Z.take j).drop i := by
    have : Z.take i = (Z.take j).take i := by rw [List.take_take, Nat.min_eq_left hij]
    rw [this, List.take_append_drop]
  rw [e2, e3, rowsOf_append, tw_split]
  · conv => rhs; rw [e4]
    rw [rowsOf_append, List.length_append]
  · intro x hx
    have hm := mem_rowsOf.mp hx
    have h1 := (hp.2.2 (x, k) (List.mem_of_mem_drop hm) z (.head _)).le
    have h2 := b (x, k) (by rw [e3]; exact List.mem_append_left _ hm)
    simp only [decide_eq_true_eq]
    simp only at h1 h2
    omega
  · intro x hx
    have hm := mem_rowsOf.mp hx
    rw [hd] at hm
    simp only [decide_eq_false_iff_not]
    rcases List.mem_cons.mp hm with h | h
    · subst h; simp at hk
    · have h1 := hp1 _ h
      have := cmpI_gt x.1 z.1.1
      rcases h1 with h1 | ⟨_, h1⟩
      · simp only at h1; omega
      · simp only at h1; omega
theorem cnt_zero (Z : MZ) (k : Nat) : cnt Z k 0 = 0 := by simp [cnt, rowsOf]
theorem cnt_all (Z : MZ) (k j : Nat) (h : Z.length ≤ j) : cnt Z k j = (rowsOf Z k).length := by unfold cnt; rw [List.take_of_length_le h]
theorem cnt_succ_same {Z : MZ} {j : Nat} {z : Row × Nat} (hj : Z[j]? = some z) : cnt Z z.2 (j + 1) = cnt Z z.2 j + 1 := by
  have hd : Z.take (j + 1) = Z.take j ++ [z] := by rw [List.take_add_one, hj]; rfl
  unfold cnt; rw [hd, rowsOf_append, List.length_append]; simp [rowsOf]
theorem cnt_succ_other {Z : MZ} {j k : Nat} {z : Row × Nat} (hj : Z[j]? = some z) (hk : k ≠ z.2) : cnt Z k (j + 1) = cnt Z k j := by
  have hd : Z.take (j + 1) = Z.take j ++ [z] := by rw [List.take_add_one, hj]; rfl
  have : ([z].filter fun z => z.2 == k) = [] := by simpa using fun e => hk e.symm
  unfold cnt; rw [hd, rowsOf_append, List.length_append]; unfold rowsOf; rw [this]; simp
theorem row_at_cnt {Z : MZ} {j : Nat} {z : Row × Nat} (hj : Z[j]? = some z) : (rowsOf Z z.2)[cnt Z z.2 j]? = some z.1 := by
  have hl := (List.getElem?_eq_some_iff.mp hj).1
  have hd : Z.drop j = z :: Z.drop (j + 1) := by rw [List.drop_eq_getElem_cons hl, (List.getElem?_eq_some_iff.mp hj).2]
  rw [rowsOf_split Z z.2 j, List.getElem?_append_right (by unfold cnt; exact Nat.le_refl _)]
  unfold cnt
  rw [Nat.sub_self, hd]; unfold rowsOf; simp
end Mine
namespace Mine
local macro_rules | `(tactic| walk_at "mine dummy") => `(tactic| skip)
open PySem PySem.W PyProof.Rows
set_option hygiene false in
local macro_rules | `(tactic| walk_at "compareOp Lt bytes bytes") => `(tactic| with_reducible refine Mine.lt_bytes ?_)
set_option hygiene false in
local macro_rules | `(tactic| walk_at "compareOp Gt bytes bytes") => `(tactic| with_reducible refine Mine.gt_bytes ?_)
set_option hygiene false in
local macro_rules | `(tactic| walk_at "compareOp GtE bytes bytes") => `(tactic| with_reducible refine Mine.ge_bytes ?_)
set_option hygiene false in
local macro_rules | `(tactic| walk_at "call type:bytes") => `(tactic| ((with_reducible show wpAny _ _ (call (Value.type "bytes") [Value.bytes _ _]) _ _ _); refine Mine.call_bytes_bytes ?_))
set_option hygiene false in
local macro_rules | `(tactic| walk_at "binaryOp LShift int int") => `(tactic| ((first | (with_reducible refine Mine.shl8 ?h0 ?h1 ?_) | (with_reducible refine Mine.shl16 ?h0 ?h1 ?_) | (with_reducible refine Mine.shl24 ?h0 ?h1 ?_) | (with_reducible refine Mine.shl32 ?h0 ?h1 ?_)); (case h0 => omega); (case h1 => omega)))
set_option hygiene false in
local macro_rules | `(tactic| walk_at "binaryOp BitOr int int") => `(tactic| ((first | (with_reducible refine Mine.or8 ?h0 ?h1 ?h2 ?_) | (with_reducible refine Mine.or16 ?h0 ?h1 ?h2 ?_) | (with_reducible refine Mine.or24 ?h0 ?h1 ?h2 ?_) | (with_reducible refine Mine.or32 ?h0 ?h1 ?h2 ?_)); (case h0 => omega); (case h1 => omega); (case h2 => omega)))
set_option hygiene false in
local macro_rules | `(tactic| k_room) => `(tactic| ktr_room)
set_option hygiene false in
local macro_rules | `(tactic| k_units) => `(tactic| ktr_units)
set_option hygiene false in
local macro_rules | `(tactic| k_all) => `(tactic| assumption)
set_option hygiene false in
local macro_rules | `(tactic| k_mem) => `(tactic| assumption)
set_option hygiene false in
local macro_rules | `(tactic| walk_at "mine begin") => `(tactic| ((rename Frag.In _ _ => X1); revert X1; k_fill; intro X1; refine wpAny_call ?_; k_dflt ktr_enter))
set_option hygiene false in
local macro_rules | `(tactic| walk_at "mine std") => `(tactic| ((case B => k_asm); (case F => k_asm); (case X => k_asm); (case N => k_asm); (case T => k_asm); (case hk => first | exact rfl | assumption); (case hd => ktr_room); (case hu => ktr_units)))
set_option hygiene false in
local macro_rules | `(tactic| walk_at "mine sub") => `(tactic| (intro pp hpp; repeat (first | exact hpp | refine List.mem_cons_of_mem _ ?_)))
set_option hygiene false in
local macro_rules | `(tactic| walk_at "mine steps") => `(tactic| repeat' (first
  | ((fail_if_success (with_reducible show wpAny _ _ (exec (PySem.Stmt.While _ _ _ _) _) _ _ _)); (fail_if_success (with_reducible show wpAny _ _ (pyIter _) _ _ _)); (fail_if_success (with_reducible show wpAny _ _ (call (Value.ref (Mine.adr _ MN.first)) _) _ _ _)); (fail_if_success (with_reducible show wpAny _ _ (call (Value.ref (Mine.adr _ MN.last)) _) _ _ _)); (fail_if_success (with_reducible show wpAny _ _ (call (Value.ref (Mine.adr _ MN.seek)) _) _ _ _)); (fail_if_success (with_reducible show wpAny _ _ (call (Value.ref (Mine.adr _ MN.step)) _) _ _ _)); (fail_if_success (with_reducible show wpAny _ _ (call (Value.ref (Mine.adr _ MN.back)) _) _ _ _));
     (fail_if_success (with_reducible show wpAny _ _ (call (Value.ref 461) _) _ _ _)); (fail_if_success (with_reducible show wpAny _ _ (call (Value.ref 468) _) _ _ _)); (fail_if_success (with_reducible show wpAny _ _ (call (Value.ref 475) _) _ _ _));
     (first | (k_unfold; (try dsimp only)) | walk1 | (dsimp only; walk1) | (leave1; walk_say "STEP leave1"; (try dsimp only)) | fail "no step"))))
set_option hygiene false in
local macro_rules | `(tactic| walk_at "subscriptTail") => `(tactic| ((with_reducible show wpAny _ _ (subscriptTail _ _ (Value.ref _) (Value.int _ _)) _ _ _); k_dflt (refine' Mine.item_list ?N ?m ?a ?b ?x ?_; (case N => k_asm); (case m => k_mem); (case a => omega); (case b => omega); (case x => assumption); k_whole)))
set_option hygiene false in
local macro_rules | `(tactic| walk_at "subscriptTail") => `(tactic| ((with_reducible show wpAny _ _ (subscriptTail _ _ (Value.ref _) (Value.int _ _)) _ _ _); k_dflt (refine' Mine.item_tup ?N ?m ?a ?b ?x ?_; (case N => k_asm); (case m => k_mem); (case a => omega); (case b => omega); (case x => first | exact rfl | assumption); k_whole)))
set_option hygiene false in
local macro_rules | `(tactic| walk_at "eval Name") => `(tactic| (k_dflt (refine' nameX_L ?F ?v ?_ ?a ?b; (case b => rfl); (case F => k_asm); (case a => rfl); (case v => first | exact rfl | assumption); k_whole)))
set_option hygiene false in
local macro_rules | `(tactic| walk_at "call ref") => `(tactic| ((with_reducible show wpAny _ _ (call (Value.ref 115) _) _ _ _); k_dflt (refine' Mine.rd32_r ?B ?F ?X ?N ?T ?hk ?hd ?hu ?s1 ?s2 ?s3 ?s4 ?_; walk_at "mine std"; (case s1 => assumption); (case s2 => omega); (case s3 => omega); (case s4 => omega); k_whole; intro t' h' tk' F' N' b1' b2'; (try k_sweep))))
set_option hygiene false in
local macro_rules | `(tactic| walk_at "call ref") => `(tactic| ((with_reducible show wpAny _ _ (call (Value.ref 122) _) _ _ _); k_dflt (refine' Mine.rd64_r ?B ?F ?X ?N ?T ?hk ?hd ?hu ?s1 ?s2 ?s3 ?s4 ?_; walk_at "mine std"; (case s1 => assumption); (case s2 => omega); (case s3 => omega); (case s4 => omega); k_whole; intro t' h' tk' F' N'; (try k_sweep))))
set_option hygiene false in
local macro_rules | `(tactic| walk_at "call ref") => `(tactic| ((with_reducible show wpAny _ _ (call (Value.ref 150) _) _ _ _); k_dflt (refine' Mine.user_of_r ?B ?F ?X ?N ?T ?hk ?hd ?hu ?s1 ?_; walk_at "mine std"; (case s1 => assumption); k_whole; intro t' h' tk' F' N'; (try k_sweep))))
set_option hygiene false in
local macro_rules | `(tactic| walk_at "call ref") => `(tactic| ((with_reducible show wpAny _ _ (call (Value.ref 157) _) _ _ _); k_dflt (refine' Mine.tag_of_r ?B ?F ?X ?N ?T ?hk ?hd ?hu ?s1 ?_; walk_at "mine std"; (case s1 => assumption); k_whole; intro t' h' tk' F' N'; (try k_sweep))))
set_option hygiene false in
local macro_rules | `(tactic| walk_at "call ref") => `(tactic| ((with_reducible show wpAny _ _ (call (Value.ref 171) _) _ _ _); k_dflt (refine' Mine.ocmp_r ?B ?F ?X ?N ?T ?hk ?hd ?hu  ?_; walk_at "mine std"; k_whole; intro t' h' tk' F' N'; (try k_sweep))))
set_option hygiene false in
local macro_rules | `(tactic| walk_at "call ref") => `(tactic| ((with_reducible show wpAny _ _ (call (Value.ref 253) _) _ _ _); k_dflt (refine' Mine.icmp_r ?B ?F ?X ?N ?T ?hk ?hd ?hu ?s1 ?s2 ?s3 ?_; walk_at "mine std"; (case s1 => assumption); (case s2 => assumption); (case s3 => first | assumption | (refine' OrdIn.mono ?oo ?os; (case oo => assumption); (case os => walk_at "mine sub"))); k_whole; intro t' h' tk' F' N'; (try k_sweep))))
set_option hygiene false in
local macro_rules | `(tactic| walk_at "call ref") => `(tactic| ((with_reducible show wpAny _ _ (call (Value.ref 405) _) _ _ _); k_dflt (refine' Mine.look_r ?B ?F ?X ?N ?T ?hk ?hd ?hu ?s1 ?s2 ?s3 ?s4 ?s5 ?s6 ?s7 ?s8 ?s9 ?s10 ?s11 ?_; (case s1 => assumption); walk_at "mine std"; (case s2 => exact hC2); (case s3 => exact hT2); (case s4 => exact n1); (case s5 => exact n2); (case s6 => exact hcv2); (case s7 => omega); (case s8 => omega); (case s9 => exact g1); (case s10 => exact g2); (case s11 => assumption); k_whole; intro v' h' tk' F' N' V'; (try k_sweep))))
set_option hygiene false in
local macro_rules | `(tactic| walk_at "call ref") => `(tactic| ((with_reducible show wpAny _ _ (call (Value.ref 412) _) _ _ _); k_dflt (refine' Mine.least_r ?B ?F ?X ?N ?T ?hk ?hd ?hu ?s1 ?s2 ?s3 ?s4 ?s5 ?s6 ?s7 ?s8 ?_; walk_at "mine std"; (case s1 => exact n1); (case s2 => exact ord2); (case s3 => exact ht2); (case s4 => exact hok2); (case s5 => omega); (case s6 => exact g1); (case s7 => exact g2); (case s8 => assumption); k_whole; intro t' h' tk' F' N'; (try k_sweep))))
set_option hygiene false in
local macro_rules | `(tactic| walk_at "call ref") => `(tactic| ((with_reducible show wpAny _ _ (call (Value.ref 419) _) _ _ _); k_dflt (refine' Mine.great_r ?B ?F ?X ?N ?T ?hk ?hd ?hu ?s1 ?s2 ?s3 ?s4 ?s5 ?s6 ?s7 ?s8 ?_; walk_at "mine std"; (case s1 => exact n1); (case s2 => exact ord2); (case s3 => exact ht2); (case s4 => exact hok2); (case s5 => omega); (case s6 => exact g1); (case s7 => exact g2); (case s8 => assumption); k_whole; intro t' h' tk' F' N'; (try k_sweep))))
set_option hygiene false in
local macro_rules | `(tactic| walk_at "call ref") => `(tactic| ((with_reducible show wpAny _ _ (call (Value.ref 321) _) _ _ _); k_dflt (refine' Mine.lvalid_r ?B ?F ?X ?N ?T ?hk ?hd ?hu ?s1 ?_; walk_at "mine std"; (case s1 => assumption); k_whole; intro h' tk' F' N'; (try k_sweep))))
set_option hygiene false in
local macro_rules | `(tactic| walk_at "mine subT") => `(tactic| (intro pp hpp; have hq := (List.mem_append.mp hpp).elim (hT pp) _root_.id; repeat (first | exact hq | refine List.mem_cons_of_mem _ ?_)))
set_option hygiene false in
local macro_rules | `(tactic| walk_at "getMethod ref") => `(tactic| ((with_reducible show wpAny _ _ (getMethod (Value.ref (KS.c _)) (PySem.Str.ofString "valid") _) _ _ _); k_dflt (refine' Mine.gm_cur ?S ?C ?F ?X ?N ?s MN.valid ?_; (case S => assumption); (case C => assumption); (case F => k_asm); (case X => k_asm); (case N => k_asm); (case s => walk_at "mine subT"); k_whole)))
set_option hygiene false in
local macro_rules | `(tactic| walk_at "getMethod ref") => `(tactic| ((with_reducible show wpAny _ _ (getMethod (Value.ref (KS.c _)) (PySem.Str.ofString "key") _) _ _ _); k_dflt (refine' Mine.gm_cur ?S ?C ?F ?X ?N ?s MN.key ?_; (case S => assumption); (case C => assumption); (case F => k_asm); (case X => k_asm); (case N => k_asm); (case s => walk_at "mine subT"); k_whole)))
set_option hygiene false in
local macro_rules | `(tactic| walk_at "getMethod ref") => `(tactic| ((with_reducible show wpAny _ _ (getMethod (Value.ref (KS.c _)) (PySem.Str.ofString "value") _) _ _ _); k_dflt (refine' Mine.gm_cur ?S ?C ?F ?X ?N ?s MN.value ?_; (case S => assumption); (case C => assumption); (case F => k_asm); (case X => k_asm); (case N => k_asm); (case s => walk_at "mine subT"); k_whole)))
set_option hygiene false in
local macro_rules | `(tactic| walk_at "getMethod ref") => `(tactic| ((with_reducible show wpAny _ _ (getMethod (Value.ref (KS.c _)) (PySem.Str.ofString "seek_first") _) _ _ _); k_dflt (refine' Mine.gm_cur ?S ?C ?F ?X ?N ?s MN.first ?_; (case S => assumption); (case C => assumption); (case F => k_asm); (case X => k_asm); (case N => k_asm); (case s => walk_at "mine subT"); k_whole)))
set_option hygiene false in
local macro_rules | `(tactic| walk_at "getMethod ref") => `(tactic| ((with_reducible show wpAny _ _ (getMethod (Value.ref (KS.c _)) (PySem.Str.ofString "seek_last") _) _ _ _); k_dflt (refine' Mine.gm_cur ?S ?C ?F ?X ?N ?s MN.last ?_; (case S => assumption); (case C => assumption); (case F => k_asm); (case X => k_asm); (case N => k_asm); (case s => walk_at "mine subT"); k_whole)))
set_option hygiene false in
local macro_rules | `(tactic| walk_at "getMethod ref") => `(tactic| ((with_reducible show wpAny _ _ (getMethod (Value.ref (KS.c _)) (PySem.Str.ofString "seek") _) _ _ _); k_dflt (refine' Mine.gm_cur ?S ?C ?F ?X ?N ?s MN.seek ?_; (case S => assumption); (case C => assumption); (case F => k_asm); (case X => k_asm); (case N => k_asm); (case s => walk_at "mine subT"); k_whole)))
set_option hygiene false in
local macro_rules | `(tactic| walk_at "getMethod ref") => `(tactic| ((with_reducible show wpAny _ _ (getMethod (Value.ref (KS.c _)) (PySem.Str.ofString "step") _) _ _ _); k_dflt (refine' Mine.gm_cur ?S ?C ?F ?X ?N ?s MN.step ?_; (case S => assumption); (case C => assumption); (case F => k_asm); (case X => k_asm); (case N => k_asm); (case s => walk_at "mine subT"); k_whole)))
set_option hygiene false in
local macro_rules | `(tactic| walk_at "getMethod ref") => `(tactic| ((with_reducible show wpAny _ _ (getMethod (Value.ref (KS.c _)) (PySem.Str.ofString "back") _) _ _ _); k_dflt (refine' Mine.gm_cur ?S ?C ?F ?X ?N ?s MN.back ?_; (case S => assumption); (case C => assumption); (case F => k_asm); (case X => k_asm); (case N => k_asm); (case s => walk_at "mine subT"); k_whole)))
set_option hygiene false in
local macro_rules | `(tactic| walk_at "callWith ref") => `(tactic| ((with_reducible show wpAny _ _ (callWith _ (Value.ref (Mine.adr _ _)) _ _ _) _ _ _); k_dflt (first | (refine' callWith_K ?k1 (Mine.keep_cur _ _ _) ?_; (case k1 => k_asm); k_whole) | (refine' callWith_K0 ?k1 (Mine.keep_cur _ _ _) ?_; (case k1 => k_in); k_whole))))
set_option hygiene false in
local macro_rules | `(tactic| walk_at "call ref") => `(tactic| ((with_reducible show wpAny _ _ (call (Value.ref (Mine.adr _ MN.valid)) _) _ _ _); k_dflt (refine' Mine.use_valid ?S ?C ?B ?F ?X ?N ?T ?hk ?hd ?hu ?s ?_; (case S => assumption); (case C => assumption); walk_at "mine std"; (case s => walk_at "mine subT"); k_whole; intro h' tk' F' N'; (try k_sweep))))
set_option hygiene false in
local macro_rules | `(tactic| walk_at "call ref") => `(tactic| ((with_reducible show wpAny _ _ (call (Value.ref (Mine.adr _ MN.key)) _) _ _ _); k_dflt (refine' Mine.use_key ?S ?C ?B ?F ?X ?N ?T ?hk ?hd ?hu ?x ?s ?_; (case S => assumption); (case C => assumption); walk_at "mine std"; (case x => assumption); (case s => walk_at "mine subT"); k_whole; intro t' h' tk' F' N'; (try k_sweep))))
set_option hygiene false in
local macro_rules | `(tactic| walk_at "call ref") => `(tactic| ((with_reducible show wpAny _ _ (call (Value.ref (Mine.adr _ MN.value)) _) _ _ _); k_dflt (refine' Mine.use_value ?S ?C ?B ?F ?X ?N ?T ?hk ?hd ?hu ?x ?s ?_; (case S => assumption); (case C => assumption); walk_at "mine std"; (case x => assumption); (case s => walk_at "mine subT"); k_whole; intro t' h' tk' F' N'; (try k_sweep))))
set_option hygiene false in
local macro_rules | `(tactic| walk_at "call ref") => `(tactic| ((with_reducible show wpAny _ _ (call (Value.ref (Mine.adr _ MN.valid)) _) _ _ _); k_dflt (refine' Mine.use_valid_none ?S ?C ?B ?F ?X ?N ?T ?hk ?hd ?hu ?s ?_; (case S => assumption); (case C => assumption); walk_at "mine std"; (case s => walk_at "mine subT"); k_whole; intro h' tk' F' N'; (try k_sweep))))
set_option hygiene false in
local macro_rules | `(tactic| walk_at "call ref") => `(tactic| ((with_reducible show wpAny _ _ (call (Value.ref (Mine.adr _ MN.valid)) _) _ _ _); k_dflt (refine' Mine.use_valid_some ?S ?C ?B ?F ?X ?N ?T ?hk ?hd ?hu ?s ?_; (case S => assumption); (case C => assumption); walk_at "mine std"; (case s => walk_at "mine subT"); k_whole; intro h' tk' F' N'; (try k_sweep))))
set_option hygiene false in
local macro_rules | `(tactic| walk_at "call type:range") => `(tactic| ((rename Fr _ _ _ _ => F'); (rename News _ _ _ _ => N'); first | (with_unfolding_all refine range1_rows F' N' ?_; intro h' tk' t1' u1' v1' R' F' N' G') | (with_unfolding_all refine range3_rows F' N' (by decide) ?_; intro h' tk' t1' u1' v1' R' F' N' G')))
set_option hygiene false in
local macro_rules | `(tactic| walk_at "setItem ref int") => `(tactic| ((with_reducible show wpAny _ _ (setItem (Value.ref _) (Value.int _ _) _) _ _ _); k_dflt (refine' Mine.set_list ?F ?N ?U ?a ?b ?c ?_; (case F => k_asm); (case N => k_asm); (case U => k_upd); (case a => omega); (case b => omega); (case c => omega); k_whole; intro h' F' N'; (try k_sweep))))
section
variable {w : World} {dp un D : Nat} {gd : Option (List Code)} {cn : Str} {cs : Scope} {a f : Addr} {ccd : Value} {cl : List (Str × Addr)} {outer : List Env} {A₀ : Around} {base h₀ : Heap} {L : Addr} {m mg mb : Str → Option Value} {mean : ExcName → Option Value} {s : Shared} {news ext rest : Led}
  {Q E : Value → Shared → Prop} {args : List Value} {C : CurP} {ks : List KS} {i : Nat} {k : KS} {st' : Option Nat}
/-- a child of a merge is moved, the rest of the ledger in sight -/
theorem kid_call2 (K : KidsIn C rest ks) (hk : ks[i]? = some k)
    (H : ∀ {E0 : Led}, (∀ p ∈ rest, p ∈ E0) → (∀ p ∈ ext, p ∈ E0) → Off k.fp E0 → Calls w D f args k.fp E0 fun r fp' => r = .none ∧ sameAdr fp' k.fp ∧ C fp' rest k.c k.kd k.R st')
    (B : Below A₀ base outer h₀) (F : Fr h₀ L s.heap m) (X : (Mine.hd.heap_39 w.params).In h₀) (N : News h₀ L s.heap news) (T : Top VW (looseW VW []) mean mg mb h₀) (hkd : cs.kind = .function) (hd : dp + D < recursionLimit) (hu : un + 8 * D < cLine)
    (hs : ∀ p ∈ ext ++ (kfps ks ++ rest), p ∈ news) (hext : Off k.fp ext)
    (kk : ∀ fp' h' tk', Fr h₀ L h' m → News h₀ L h' (ext ++ (kfps (ks.set i { k with fp := fp', st := st' }) ++ rest)) → sameAdr fp' k.fp → KidsIn C rest (ks.set i { k with fp := fp', st := st' }) → Q .none { s with heap := h', toks := tk' }) :
    wpAny (model Challenge.rw_no0415_01.row.prog w) (ktrTop dp un gd cn cs L a ccd cl outer) (call (.ref f) args) Q E s := by
  have hmem := List.mem_of_getElem? hk
  refine (H (E0 := ext ++ (kfps (ks.eraseIdx i) ++ rest)) (fun p hp => List.mem_append_right _ (List.mem_append_right _ hp)) (fun p hp => List.mem_append_left _ hp) ?_).use B F X N T hkd hd hu ?_ ?_
  · intro p hp q hq
    rcases List.mem_append.mp hq with h | h
    · exact hext p hp q h
    · rcases List.mem_append.mp h with h | h
      · exact off_erase K.apart hk p hp q h
      · exact K.off k hmem p hp q h
  · intro p hp
    rcases List.mem_append.mp hp with h | h
    · exact hs p (List.mem_append_right _ (List.mem_append_left _ (mem_kfps hmem p h)))
    · rcases List.mem_append.mp h with h | h
      · exact hs p (List.mem_append_left _ h)
      · rcases List.mem_append.mp h with h | h
        · exact hs p (List.mem_append_right _ (List.mem_append_left _ (mem_erase_of h)))
        · exact hs p (List.mem_append_right _ (List.mem_append_right _ h))
  · rintro r fp' h' tk' F' N' ⟨rfl, ha, hC⟩
    refine kk fp' h' tk' F' (news_of N' fun p hp => ?_) ha (K.set hk ha hC)
    rcases List.mem_append.mp hp with h | h
    · exact List.mem_append_right _ (List.mem_append_left _ h)
    · rcases List.mem_append.mp h with h | h
      · rcases mem_kfps_set h with h | h
        · exact List.mem_append_left _ h
        · exact List.mem_append_right _ (List.mem_append_right _ (List.mem_append_left _ h))
      · exact List.mem_append_right _ (List.mem_append_right _ (List.mem_append_right _ h))
end
theorem LoopIn.skip {C : CurP} {rest : Led} {f : Nat → KS → Option Nat} {ks ks₁ : List KS} {tops0 tops₁ : Array Value} {dx tp : Addr} {n : Nat} {k : KS} {v : Value} (l : LoopIn C rest f ks ks₁ tops0 tops₁ dx tp n) (hk : ks[n]? = some k)
    (hf : f n k = k.st) (ht : tops0[n]? = some v) (hv : TopV k.key v) : LoopIn C rest f ks ks₁ tops0 tops₁ dx tp (n + 1) := ⟨l.kids, l.part.skip hk hf ht hv, l.off⟩
def backOf (R : List Row) (st : Option Nat) : Option Nat := match st with | some j => prevAt j | none => lastAt R
section
variable {w : World} {dp un : Nat} {gd : Option (List Code)} {cn : Str} {cs : Scope} {a : Addr} {ccd : Value} {cl : List (Str × Addr)} {outer : List Env} {A₀ : Around} {base h₀ : Heap} {L : Addr} {m mg mb : Str → Option Value} {mean : ExcName → Option Value} {s : Shared} {rest : Led}
  {Q E : Value → Shared → Prop} {D : Nat} {C : CurP} {x dx ch tp o : Addr} {q : MP} {cur going : Int} {tc tg : Tok} {tops : Array Value} {nt : Nat} {ks : List KS} {kc : KS}
set_option maxRecDepth 100000 in
set_option maxHeartbeats 8000000 in
theorem tfwd_r {ka : KS} {cv : Array Value} {nc av : Nat} {e : IK} {te : Tok} (B : Below A₀ base outer h₀) (F : Fr h₀ L s.heap m) (X : (Mine.hd.heap_39 w.params).In h₀) (N : News h₀ L s.heap ((dx, MD q ch tp o ((av : Nat) : Int) tc going tg) :: (tp, listOf tops nt) :: (kfps ks ++ rest))) (T : Top VW (looseW VW []) mean mg mb h₀) (hk : cs.kind = .function) (hd : dp + (D + 12) < recursionLimit) (hu : un + 8 * (D + 12) < cLine)
    (S : CurSpec w D C) (K : KidsIn C rest ks) (m1 : (x, instObj 506 dx) ∈ rest) (m2 : (ch, listOf cv nc) ∈ rest) (hcl : cv.size = ks.length) (hcv : ∀ (i : Nat) k, ks[i]? = some k → cv[i]? = some (.ref k.c)) (hts : tops.size = ks.length) (ord : OrdIn rest o) (hn : ks.length ≤ 1000) (offx : ∀ p ∈ kfps ks ++ rest, p.1 ≠ dx ∧ p.1 ≠ tp) (off3 : @Ne Nat dx tp) (hka : ks[av]? = some ka) (hkey : ka.key = some e) (he : e.Ok) (htv : tops[av]? = some (.bytes (ikb e) te)) (k : ∀ t' t2 tops' ks' h' tk', Fr h₀ L h' m → News h₀ L h' ((dx, MD q ch tp o ((av : Nat) : Int) t' 0 t2) :: (tp, listOf tops' nt) :: (kfps ks' ++ rest)) → KidsIn C rest ks' → Moved (fun i k => if i = av then k.st else if i < av then afterAt k.R e else seekAt k.R e) ks ks' → TopsAre tops' (ks'.map KS.key) → Q (.none) { s with heap := h', toks := tk' }) :
    wpAny (model Challenge.rw_no0415_01.row.prog w) (ktrTop dp un gd cn cs L a ccd cl outer) (call (.ref 468) [.ref x]) Q E s := by
  have hcl2 : (cv.size : Int) = (ks.length : Int) := by omega
  generalize hTT : kfps ks ++ rest = TT at N
  have q1 : (x, instObj 506 dx) ∈ TT := hTT ▸ List.mem_append_right _ m1
  have q2 : (ch, listOf cv nc) ∈ TT := hTT ▸ List.mem_append_right _ m2
  have f1 : ∀ p ∈ TT, p.1 ≠ dx := fun p hp => (offx p (hTT ▸ hp)).1
  have f2 : ∀ p ∈ TT, p.1 ≠ tp := fun p hp => (offx p (hTT ▸ hp)).2
  have hav1 : av < ks.length := (List.getElem?_eq_some_iff.mp hka).1
  have htv1 : tops[((av : Nat) : Int).toNat]? = some (.bytes (ikb e) te) := htv
  walk_at "mine begin"
  walk_at "mine steps"
  rename Fr _ _ _ _ => FF
  rename News _ _ _ _ => NN
  rename IsRange _ _ _ _ _ _ _ _ => RR
  subst hTT
  refine iter_up (n := ks.length) (fun i m₁ news₁ => m₁ "self" = some (.ref x) ∧ m₁ "at" = some (.int ((av : Nat) : Int) tc) ∧ m₁ "here" = some (.bytes (ikb e) te) ∧ ∃ ks₁ tops₁ tcc, news₁ = (dx, MD q ch tp o (-1) tcc going tg) :: (tp, listOf tops₁ nt) :: (kfps ks₁ ++ rest) ∧ LoopIn C rest (fun i k => if i = av then k.st else if i < av then afterAt k.R e else seekAt k.R e) ks ks₁ tops tops₁ dx tp i) rfl RR (by omega) FF NN ⟨rfl, rfl, rfl, ks, tops, _, rfl, K, .zero hts, offx⟩ ?_ ?_
  · clear FF NN RR q1 q2 f1 f2
    rintro i t m₁ news₁ h tk I oI hi ⟨e1, e2, e3, ks₁, tops₁, tcc, rfl, l⟩ hne F₁ N₁
    obtain ⟨kc, hkc⟩ : ∃ kc, ks[i]? = some kc := ⟨_, List.getElem?_eq_getElem hi⟩
    have hk1 : ks₁[i]? = some kc := by rw [l.part.todo i (Nat.le_refl _)]; exact hkc
    have hmem := List.mem_of_getElem? hk1
    have hcv1 : cv[((i : Nat) : Int).toNat]? = some (.ref kc.c) := hcv i kc hkc
    have hne2 : ∀ p ∈ kfps ks₁ ++ rest, p.1 ≠ I := fun p hp => hne p (.tail _ (.tail _ hp))
    have hneD := hne _ (.head _)
    have hneT := hne _ (.tail _ (.head _))
    generalize hT1 : kfps ks₁ ++ rest = T1 at N₁
    have q2 : (ch, listOf cv nc) ∈ T1 := hT1 ▸ List.mem_append_right _ m2
    have q1 : (x, instObj 506 dx) ∈ T1 := hT1 ▸ List.mem_append_right _ m1
    have q3 : ∀ p ∈ T1, p.1 ≠ I := fun p hp => hne p (hT1 ▸ .tail _ (.tail _ hp))
    walk_at "mine steps"
    rotate_left
    · have hia : i = av := by omega
      subst hT1
      refine TurnJ.next (.inl rfl) F₁ N₁ (by k_mem) (fun p hp => .tail _ hp) hne ⟨e1, e2, e3, ks₁, tops₁, tcc, rfl, l.skip hkc (by simp [hia]) (hia ▸ htv) ?_⟩
      have e9 : some kc = ks[av]? := hia ▸ hkc.symm
      rw [hka] at e9
      rw [Option.some.inj e9, hkey]; exact ⟨_, rfl⟩
    have hia : i ≠ av := by omega
    rename News _ _ _ _ => NN
    refine' kid_call2 (ext := [(dx, MD q ch tp o (-1) tcc going tg), (tp, listOf tops₁ nt), (I, oI)]) l.kids hk1 (fun h1 h2 h3 => sother_c (pe := decide ((i : Int) < (av : Int))) S (l.kids.cur _ hmem) h1 h3 he (h1 _ m1) (h2 _ (.head _)) (h1 _ m2) hcv1 (ord.mono h1) (by omega)) ?B ?F ?X ?N ?T ?hk ?hd ?hu ?_ ?_ ?_
    walk_at "mine std"
    · intro p hp
      rw [hT1] at hp
      simp only [List.cons_append, List.nil_append, List.mem_cons] at hp ⊢
      rcases hp with h | h | h | h <;> simp [h]
    · intro p hp p' hp'
      have z := l.off p (List.mem_append_left _ (mem_kfps hmem p hp))
      have z2 := hne2 p (List.mem_append_left _ (mem_kfps hmem p hp))
      simp only [List.mem_cons, List.not_mem_nil, or_false] at hp'
      rcases hp' with rfl | rfl | rfl
      · exact fun e => z.1 e.symm
      · exact fun e => z.2 e.symm
      · exact fun e => z2 e.symm
    clear NN q2
    intro fp' h' tk' F' N' ha K2
    simp only [List.cons_append, List.nil_append] at N'
    have hl1 : ∀ p ∈ kfps ks₁ ++ rest, p.1 ≠ dx ∧ p.1 ≠ tp ∧ p.1 ≠ I := fun p hp => ⟨(l.off p hp).1, (l.off p hp).2, hne2 p hp⟩
    have hst : (if decide ((i : Int) < (av : Int)) = true then afterAt kc.R e else seekAt kc.R e) = (fun i k => if i = av then k.st else if i < av then afterAt k.R e else seekAt k.R e) i kc := by
      simp only [decide_eq_true_eq, Int.ofNat_lt, hia, if_false]
    rw [hst] at N' K2
    obtain ⟨k2, hk2⟩ : ∃ k2 : KS, k2 = { kc with fp := fp', st := (fun i k => if i = av then k.st else if i < av then afterAt k.R e else seekAt k.R e) i kc } := ⟨_, rfl⟩
    have hi2 : i < (ks₁).length := (List.getElem?_eq_some_iff.mp hk1).1
    have hmem2 : k2 ∈ (ks₁).set i k2 := List.mem_of_getElem? (List.getElem?_set_self hi2)
    have hl2 : ∀ p ∈ kfps ((ks₁).set i k2) ++ rest, p.1 ≠ dx ∧ p.1 ≠ tp ∧ p.1 ≠ I := fun p hp => by
      rcases List.mem_append.mp hp with h | h
      · obtain ⟨p', hp', e⟩ := adr_set (k' := k2) hk1 (by rw [hk2]; exact ha) p h
        rw [← e]; exact hl1 p' (List.mem_append_left _ hp')
      · exact hl1 p (List.mem_append_right _ h)
    rw [← hk2] at N' K2
    generalize eT2 : (I, oI) :: (kfps ((ks₁).set i k2) ++ rest) = T2 at N'
    have sub2 : ∀ p ∈ rest, p ∈ T2 := fun p hp => eT2 ▸ .tail _ (List.mem_append_right _ hp)
    have hC2 : C k2.fp T2 k2.c k2.kd k2.R k2.st := S.mono (K2.cur _ hmem2) sub2
    have hT2 : ∀ p ∈ k2.fp, p ∈ T2 := fun p hp => eT2 ▸ .tail _ (List.mem_append_left _ (mem_kfps hmem2 p hp))
    have n1 := sub2 _ m1
    have n2 := sub2 _ m2
    have hcv2 : cv[i]? = some (.ref k2.c) := by rw [hk2]; exact hcv i kc hkc
    have htz : tops₁.size = ks.length := l.part.sz
    have g1 : ∀ p ∈ T2, p.1 ≠ dx := fun p hp => by
      rw [← eT2] at hp
      rcases List.mem_cons.mp hp with rfl | h
      · exact fun e => hneD e.symm
      · exact (hl2 p h).1
    have g2 : ∀ p ∈ T2, p.1 ≠ tp := fun p hp => by
      rw [← eT2] at hp
      rcases List.mem_cons.mp hp with rfl | h
      · exact fun e => hneT e.symm
      · exact (hl2 p h).2.1
    walk_at "mine steps"
    rename Fr _ _ _ _ => FF
    rename News _ _ _ _ => NN
    rename TopV _ _ => VV
    rw [hk2] at VV
    refine TurnJ.next (.inl rfl) FF NN (.tail _ (.tail _ (eT2 ▸ .head _))) (fun p hp => ?_) (fun p hp => ?_) ⟨e1, e2, e3, ks₁.set i k2, _, tcc, rfl, by rw [hk2]; exact l.step hkc ha (hk2 ▸ K2) VV⟩
    · rcases List.mem_cons.mp hp with h | h
      · exact h ▸ .head _
      · rcases List.mem_cons.mp h with h | h
        · exact h ▸ .tail _ (.head _)
        · exact .tail _ (.tail _ (eT2 ▸ .tail _ h))
    · rcases List.mem_cons.mp hp with h | h
      · exact h ▸ hneD
      · rcases List.mem_cons.mp h with h | h
        · exact h ▸ hneT
        · exact (hl2 p h).2.2
  · clear FF NN RR q1 q2 f1 f2
    rintro m₁ news₁ h tk ⟨e1, e2, e3, ks₁, tops₁, tcc, rfl, l⟩ F₁ N₁
    obtain ⟨mv, ht2⟩ := l.part.all
    generalize eT2 : kfps ks₁ ++ rest = T2 at N₁
    have sub2 : ∀ p ∈ rest, p ∈ T2 := fun p hp => eT2 ▸ List.mem_append_right _ hp
    have n1 := sub2 _ m1
    have g1 : ∀ p ∈ T2, p.1 ≠ dx := fun p hp => (l.off p (eT2 ▸ hp)).1
    have g2 : ∀ p ∈ T2, p.1 ≠ tp := fun p hp => (l.off p (eT2 ▸ hp)).2
    walk_at "mine steps"
    subst eT2
    all_goals (exact k _ _ _ _ _ _ (by k_asm) (by k_asm) l.kids mv ht2)
end
open PySem PySem.W PyProof.Rows
section
variable {w : World} {dp un : Nat} {gd : Option (List Code)} {cn : Str} {cs : Scope} {a : Addr} {ccd : Value} {cl : List (Str × Addr)} {outer : List Env} {A₀ : Around} {base h₀ : Heap} {L : Addr} {m mg mb : Str → Option Value} {mean : ExcName → Option Value} {s : Shared} {rest : Led}
  {Q E : Value → Shared → Prop} {D : Nat} {C : CurP} {x dx ch tp o : Addr} {q : MP} {cur going : Int} {tc tg : Tok} {tops : Array Value} {nt : Nat} {ks : List KS} {kc : KS}
set_option maxRecDepth 100000 in
set_option maxHeartbeats 8000000 in
theorem tbwd_r {ka : KS} {cv : Array Value} {nc av : Nat} {e : IK} {te : Tok} (B : Below A₀ base outer h₀) (F : Fr h₀ L s.heap m) (X : (Mine.hd.heap_39 w.params).In h₀) (N : News h₀ L s.heap ((dx, MD q ch tp o ((av : Nat) : Int) tc going tg) :: (tp, listOf tops nt) :: (kfps ks ++ rest))) (T : Top VW (looseW VW []) mean mg mb h₀) (hk : cs.kind = .function) (hd : dp + (D + 12) < recursionLimit) (hu : un + 8 * (D + 12) < cLine)
    (S : CurSpec w D C) (K : KidsIn C rest ks) (m1 : (x, instObj 506 dx) ∈ rest) (m2 : (ch, listOf cv nc) ∈ rest) (hcl : cv.size = ks.length) (hcv : ∀ (i : Nat) k, ks[i]? = some k → cv[i]? = some (.ref k.c)) (hts : tops.size = ks.length) (ord : OrdIn rest o) (hn : ks.length ≤ 1000) (offx : ∀ p ∈ kfps ks ++ rest, p.1 ≠ dx ∧ p.1 ≠ tp) (off3 : @Ne Nat dx tp) (hka : ks[av]? = some ka) (hkey : ka.key = some e) (he : e.Ok) (htv : tops[av]? = some (.bytes (ikb e) te)) (k : ∀ t' t2 tops' ks' h' tk', Fr h₀ L h' m → News h₀ L h' ((dx, MD q ch tp o ((av : Nat) : Int) t' 1 t2) :: (tp, listOf tops' nt) :: (kfps ks' ++ rest)) → KidsIn C rest ks' → Moved (fun i k => if i = av then k.st else backOf k.R (if i < av then afterAt k.R e else seekAt k.R e)) ks ks' → TopsAre tops' (ks'.map KS.key) → Q (.none) { s with heap := h', toks := tk' }) :
    wpAny (model Challenge.rw_no0415_01.row.prog w) (ktrTop dp un gd cn cs L a ccd cl outer) (call (.ref 475) [.ref x]) Q E s := by
  have hcl2 : (cv.size : Int) = (ks.length : Int) := by omega
  generalize hTT : kfps ks ++ rest = TT at N
  have q1 : (x, instObj 506 dx) ∈ TT := hTT ▸ List.mem_append_right _ m1
  have q2 : (ch, listOf cv nc) ∈ TT := hTT ▸ List.mem_append_right _ m2
  have f1 : ∀ p ∈ TT, p.1 ≠ dx := fun p hp => (offx p (hTT ▸ hp)).1
  have f2 : ∀ p ∈ TT, p.1 ≠ tp := fun p hp => (offx p (hTT ▸ hp)).2
  have hav1 : av < ks.length := (List.getElem?_eq_some_iff.mp hka).1
  have htv1 : tops[((av : Nat) : Int).toNat]? = some (.bytes (ikb e) te) := htv
  walk_at "mine begin"
  walk_at "mine steps"
  rename Fr _ _ _ _ => FF
  rename News _ _ _ _ => NN
  rename IsRange _ _ _ _ _ _ _ _ => RR
  subst hTT
  refine iter_up (n := ks.length) (fun i m₁ news₁ => m₁ "self" = some (.ref x) ∧ m₁ "at" = some (.int ((av : Nat) : Int) tc) ∧ m₁ "here" = some (.bytes (ikb e) te) ∧ ∃ ks₁ tops₁ tcc, news₁ = (dx, MD q ch tp o (-1) tcc going tg) :: (tp, listOf tops₁ nt) :: (kfps ks₁ ++ rest) ∧ LoopIn C rest (fun i k => if i = av then k.st else backOf k.R (if i < av then afterAt k.R e else seekAt k.R e)) ks ks₁ tops tops₁ dx tp i) rfl RR (by omega) FF NN ⟨rfl, rfl, rfl, ks, tops, _, rfl, K, .zero hts, offx⟩ ?_ ?_
  · clear FF NN RR q1 q2 f1 f2
    rintro i t m₁ news₁ h tk I oI hi ⟨e1, e2, e3, ks₁, tops₁, tcc, rfl, l⟩ hne F₁ N₁
    obtain ⟨kc, hkc⟩ : ∃ kc, ks[i]? = some kc := ⟨_, List.getElem?_eq_getElem hi⟩
    have hk1 : ks₁[i]? = some kc := by rw [l.part.todo i (Nat.le_refl _)]; exact hkc
    have hmem := List.mem_of_getElem? hk1
    have hcv1 : cv[((i : Nat) : Int).toNat]? = some (.ref kc.c) := hcv i kc hkc
    have hne2 : ∀ p ∈ kfps ks₁ ++ rest, p.1 ≠ I := fun p hp => hne p (.tail _ (.tail _ hp))
    have hneD := hne _ (.head _)
    have hneT := hne _ (.tail _ (.head _))
    generalize hT1 : kfps ks₁ ++ rest = T1 at N₁
    have q2 : (ch, listOf cv nc) ∈ T1 := hT1 ▸ List.mem_append_right _ m2
    have q1 : (x, instObj 506 dx) ∈ T1 := hT1 ▸ List.mem_append_right _ m1
    have q3 : ∀ p ∈ T1, p.1 ≠ I := fun p hp => hne p (hT1 ▸ .tail _ (.tail _ hp))
    walk_at "mine steps"
    rotate_left
    · have hia : i = av := by omega
      subst hT1
      refine TurnJ.next (.inl rfl) F₁ N₁ (by k_mem) (fun p hp => .tail _ hp) hne ⟨e1, e2, e3, ks₁, tops₁, tcc, rfl, l.skip hkc (by simp [hia]) (hia ▸ htv) ?_⟩
      have e9 : some kc = ks[av]? := hia ▸ hkc.symm
      rw [hka] at e9
      rw [Option.some.inj e9, hkey]; exact ⟨_, rfl⟩
    have hia : i ≠ av := by omega
    rename News _ _ _ _ => NN
    refine' kid_call2 (ext := [(dx, MD q ch tp o (-1) tcc going tg), (tp, listOf tops₁ nt), (I, oI)]) l.kids hk1 (fun h1 h2 h3 => sother_c (pe := decide ((i : Int) < (av : Int))) S (l.kids.cur _ hmem) h1 h3 he (h1 _ m1) (h2 _ (.head _)) (h1 _ m2) hcv1 (ord.mono h1) (by omega)) ?B ?F ?X ?N ?T ?hk ?hd ?hu ?_ ?_ ?_
    walk_at "mine std"
    · intro p hp
      rw [hT1] at hp
      simp only [List.cons_append, List.nil_append, List.mem_cons] at hp ⊢
      rcases hp with h | h | h | h <;> simp [h]
    · intro p hp p' hp'
      have z := l.off p (List.mem_append_left _ (mem_kfps hmem p hp))
      have z2 := hne2 p (List.mem_append_left _ (mem_kfps hmem p hp))
      simp only [List.mem_cons, List.not_mem_nil, or_false] at hp'
      rcases hp' with rfl | rfl | rfl
      · exact fun e => z.1 e.symm
      · exact fun e => z.2 e.symm
      · exact fun e => z2 e.symm
    clear NN q2
    intro fp' h' tk' F' N' ha K2
    simp only [List.cons_append, List.nil_append] at N'
    have hl1 : ∀ p ∈ kfps ks₁ ++ rest, p.1 ≠ dx ∧ p.1 ≠ tp ∧ p.1 ≠ I := fun p hp => ⟨(l.off p hp).1, (l.off p hp).2, hne2 p hp⟩
    obtain ⟨st1, hst1⟩ : ∃ st1, st1 = (if decide ((i : Int) < (av : Int)) = true then afterAt kc.R e else seekAt kc.R e) := ⟨_, rfl⟩
    have hst : backOf kc.R st1 = (fun i k => if i = av then k.st else backOf k.R (if i < av then afterAt k.R e else seekAt k.R e)) i kc := by
      rw [hst1]; simp only [decide_eq_true_eq, Int.ofNat_lt, hia, if_false]
    rw [← hst1] at N' K2
    obtain ⟨k2, hk2⟩ : ∃ k2 : KS, k2 = { kc with fp := fp', st := st1 } := ⟨_, rfl⟩
    have hi2 : i < (ks₁).length := (List.getElem?_eq_some_iff.mp hk1).1
    have hmem2 : k2 ∈ (ks₁).set i k2 := List.mem_of_getElem? (List.getElem?_set_self hi2)
    have hl2 : ∀ p ∈ kfps ((ks₁).set i k2) ++ rest, p.1 ≠ dx ∧ p.1 ≠ tp ∧ p.1 ≠ I := fun p hp => by
      rcases List.mem_append.mp hp with h | h
      · obtain ⟨p', hp', e⟩ := adr_set (k' := k2) hk1 (by rw [hk2]; exact ha) p h
        rw [← e]; exact hl1 p' (List.mem_append_left _ hp')
      · exact hl1 p (List.mem_append_right _ h)
    rw [← hk2] at N' K2
    generalize eT2 : (I, oI) :: (kfps ((ks₁).set i k2) ++ rest) = T2 at N'
    have sub2 : ∀ p ∈ rest, p ∈ T2 := fun p hp => eT2 ▸ .tail _ (List.mem_append_right _ hp)
    have hC2 : C k2.fp T2 k2.c k2.kd k2.R k2.st := S.mono (K2.cur _ hmem2) sub2
    have hT2 : ∀ p ∈ k2.fp, p ∈ T2 := fun p hp => eT2 ▸ .tail _ (List.mem_append_left _ (mem_kfps hmem2 p hp))
    have n1 := sub2 _ m1
    have n2 := sub2 _ m2
    have hcv2 : cv[i]? = some (.ref k2.c) := by rw [hk2]; exact hcv i kc hkc
    have htz : tops₁.size = ks.length := l.part.sz
    have g1 : ∀ p ∈ T2, p.1 ≠ dx := fun p hp => by
      rw [← eT2] at hp
      rcases List.mem_cons.mp hp with rfl | h
      · exact fun e => hneD e.symm
      · exact (hl2 p h).1
    have g2 : ∀ p ∈ T2, p.1 ≠ tp := fun p hp => by
      rw [← eT2] at hp
      rcases List.mem_cons.mp hp with rfl | h
      · exact fun e => hneT e.symm
      · exact (hl2 p h).2.1
    have hkk : (ks₁.set i k2)[i]? = some k2 := List.getElem?_set_self hi2
    have ha1 : sameAdr k2.fp kc.fp := by rw [hk2]; exact ha
    have hmv : ∀ {E0 : Led}, (∀ p ∈ rest, p ∈ E0) → Off k2.fp E0 → Calls w D (adr k2.kd (if st1.isSome then MN.back else MN.last)) [.ref k2.c] k2.fp E0 fun r fp' => r = .none ∧ sameAdr fp' k2.fp ∧ C fp' rest k2.c k2.kd k2.R (backOf kc.R st1) := fun h1 h2 => by
      have hc := K2.cur _ hmem2
      have es : k2.st = st1 := by rw [hk2]
      have eR : k2.R = kc.R := by rw [hk2]
      cases hst2 : st1 with
      | none => rw [← eR]; exact S.last hc h1 h2
      | some j => rw [es, hst2] at hc; exact S.back hc h1 h2
    have hst3 : k2.st.isSome = st1.isSome := by rw [hk2]
    have hov : Off k2.fp [(dx, MD q ch tp o (-1) tcc going tg), (tp, listOf tops₁ nt), (I, oI)] := fun p hp p' hp' => by
      have z := hl2 p (List.mem_append_left _ (mem_kfps hmem2 p hp))
      simp only [List.mem_cons, List.not_mem_nil, or_false] at hp'
      rcases hp' with rfl | rfl | rfl
      · exact fun e => z.1 e.symm
      · exact fun e => z.2.1 e.symm
      · exact fun e => z.2.2 e.symm
    have hT := hT2
    walk_at "mine steps"
    · have hb : st1.isSome = true := hst3 ▸ (by assumption)
      rw [hb] at hmv
      simp only [if_true] at hmv
      rename News _ _ _ _ => NN
      refine' kid_call (ext := [(dx, MD q ch tp o (-1) tcc going tg), (tp, listOf tops₁ nt), (I, oI)]) K2 hkk hmv ?B ?F ?X ?N ?T ?hk ?hd ?hu ?_ ?_ ?_
      walk_at "mine std"
      · intro p hp
        simp only [List.cons_append, List.nil_append, List.mem_cons] at hp ⊢
        rw [← eT2]
        rcases hp with h | h | h | h <;> simp [h]
      · exact hov
      clear NN hC2 hT2 hT n1 n2 sub2 g1 g2
      subst eT2
      clear hmv hov
      intro fp2 h' tk' F' N' ha2 K3
      simp only [List.cons_append, List.nil_append] at N'
      simp only [List.set_set] at N' K3
      obtain ⟨k3, hk3⟩ : ∃ k3 : KS, k3 = { kc with fp := fp2, st := (fun i k => if i = av then k.st else backOf k.R (if i < av then afterAt k.R e else seekAt k.R e)) i kc } := ⟨_, rfl⟩
      have hk23 : ({ k2 with fp := fp2, st := backOf kc.R st1 } : KS) = k3 := by rw [hk3, hst, hk2]
      rw [hk23] at N' K3
      have ha3 : sameAdr fp2 kc.fp := ha2.trans ha1
      clear hl2 hmem2 hkk hk23 hst3 K2 hcv2
      have hmem3 : k3 ∈ ks₁.set i k3 := List.mem_of_getElem? (List.getElem?_set_self hi2)
      have hl3 : ∀ p ∈ kfps (ks₁.set i k3) ++ rest, p.1 ≠ dx ∧ p.1 ≠ tp ∧ p.1 ≠ I := fun p hp => by
        rcases List.mem_append.mp hp with h | h
        · obtain ⟨p', hp', e⟩ := adr_set (k' := k3) hk1 (by rw [hk3]; exact ha3) p h
          rw [← e]; exact hl1 p' (List.mem_append_left _ hp')
        · exact hl1 p (List.mem_append_right _ h)
      generalize eT2 : (I, oI) :: (kfps (ks₁.set i k3) ++ rest) = T2 at N'
      have sub2 : ∀ p ∈ rest, p ∈ T2 := fun p hp => eT2 ▸ .tail _ (List.mem_append_right _ hp)
      have hC2 : C k3.fp T2 k3.c k3.kd k3.R k3.st := S.mono (K3.cur _ hmem3) sub2
      have hT2 : ∀ p ∈ k3.fp, p ∈ T2 := fun p hp => eT2 ▸ .tail _ (List.mem_append_left _ (mem_kfps hmem3 p hp))
      have n1 := sub2 _ m1
      have n2 := sub2 _ m2
      have hcv2 : cv[i]? = some (.ref k3.c) := by rw [hk3]; exact hcv i kc hkc
      have g1 : ∀ p ∈ T2, p.1 ≠ dx := fun p hp => by
        rw [← eT2] at hp
        rcases List.mem_cons.mp hp with rfl | h
        · exact fun e => hneD e.symm
        · exact (hl3 p h).1
      have g2 : ∀ p ∈ T2, p.1 ≠ tp := fun p hp => by
        rw [← eT2] at hp
        rcases List.mem_cons.mp hp with rfl | h
        · exact fun e => hneT e.symm
        · exact (hl3 p h).2.1
      walk_at "mine steps"
      rename Fr _ _ _ _ => FF
      rename News _ _ _ _ => NN
      rename TopV _ _ => VV
      rw [hk3] at VV
      refine TurnJ.next (.inl rfl) FF NN (.tail _ (.tail _ (eT2 ▸ .head _))) (fun p hp => ?_) (fun p hp => ?_) ⟨e1, e2, e3, ks₁.set i k3, _, tcc, rfl, by rw [hk3]; exact l.step hkc ha3 (hk3 ▸ K3) VV⟩
      · rcases List.mem_cons.mp hp with h | h
        · exact h ▸ .head _
        · rcases List.mem_cons.mp h with h | h
          · exact h ▸ .tail _ (.head _)
          · exact .tail _ (.tail _ (eT2 ▸ .tail _ h))
      · rcases List.mem_cons.mp hp with h | h
        · exact h ▸ hneD
        · rcases List.mem_cons.mp h with h | h
          · exact h ▸ hneT
          · exact (hl3 p h).2.2
    · have hb : st1.isSome = false := by rw [← hst3]; first | assumption | simp_all
      rw [hb] at hmv
      simp only [Bool.false_eq_true, if_false] at hmv
      rename News _ _ _ _ => NN
      refine' kid_call (ext := [(dx, MD q ch tp o (-1) tcc going tg), (tp, listOf tops₁ nt), (I, oI)]) K2 hkk hmv ?B ?F ?X ?N ?T ?hk ?hd ?hu ?_ ?_ ?_
      walk_at "mine std"
      · intro p hp
        simp only [List.cons_append, List.nil_append, List.mem_cons] at hp ⊢
        rw [← eT2]
        rcases hp with h | h | h | h <;> simp [h]
      · exact hov
      clear NN hC2 hT2 hT n1 n2 sub2 g1 g2
      subst eT2
      clear hmv hov
      intro fp2 h' tk' F' N' ha2 K3
      simp only [List.cons_append, List.nil_append] at N'
      simp only [List.set_set] at N' K3
      obtain ⟨k3, hk3⟩ : ∃ k3 : KS, k3 = { kc with fp := fp2, st := (fun i k => if i = av then k.st else backOf k.R (if i < av then afterAt k.R e else seekAt k.R e)) i kc } := ⟨_, rfl⟩
      have hk23 : ({ k2 with fp := fp2, st := backOf kc.R st1 } : KS) = k3 := by rw [hk3, hst, hk2]
      rw [hk23] at N' K3
      have ha3 : sameAdr fp2 kc.fp := ha2.trans ha1
      clear hl2 hmem2 hkk hk23 hst3 K2 hcv2
      have hmem3 : k3 ∈ ks₁.set i k3 := List.mem_of_getElem? (List.getElem?_set_self hi2)
      have hl3 : ∀ p ∈ kfps (ks₁.set i k3) ++ rest, p.1 ≠ dx ∧ p.1 ≠ tp ∧ p.1 ≠ I := fun p hp => by
        rcases List.mem_append.mp hp with h | h
        · obtain ⟨p', hp', e⟩ := adr_set (k' := k3) hk1 (by rw [hk3]; exact ha3) p h
          rw [← e]; exact hl1 p' (List.mem_append_left _ hp')
        · exact hl1 p (List.mem_append_right _ h)
      generalize eT2 : (I, oI) :: (kfps (ks₁.set i k3) ++ rest) = T2 at N'
      have sub2 : ∀ p ∈ rest, p ∈ T2 := fun p hp => eT2 ▸ .tail _ (List.mem_append_right _ hp)
      have hC2 : C k3.fp T2 k3.c k3.kd k3.R k3.st := S.mono (K3.cur _ hmem3) sub2
      have hT2 : ∀ p ∈ k3.fp, p ∈ T2 := fun p hp => eT2 ▸ .tail _ (List.mem_append_left _ (mem_kfps hmem3 p hp))
      have n1 := sub2 _ m1
      have n2 := sub2 _ m2
      have hcv2 : cv[i]? = some (.ref k3.c) := by rw [hk3]; exact hcv i kc hkc
      have g1 : ∀ p ∈ T2, p.1 ≠ dx := fun p hp => by
        rw [← eT2] at hp
        rcases List.mem_cons.mp hp with rfl | h
        · exact fun e => hneD e.symm
        · exact (hl3 p h).1
      have g2 : ∀ p ∈ T2, p.1 ≠ tp := fun p hp => by
        rw [← eT2] at hp
        rcases List.mem_cons.mp hp with rfl | h
        · exact fun e => hneT e.symm
        · exact (hl3 p h).2.1
      walk_at "mine steps"
      rename Fr _ _ _ _ => FF
      rename News _ _ _ _ => NN
      rename TopV _ _ => VV
      rw [hk3] at VV
      refine TurnJ.next (.inl rfl) FF NN (.tail _ (.tail _ (eT2 ▸ .head _))) (fun p hp => ?_) (fun p hp => ?_) ⟨e1, e2, e3, ks₁.set i k3, _, tcc, rfl, by rw [hk3]; exact l.step hkc ha3 (hk3 ▸ K3) VV⟩
      · rcases List.mem_cons.mp hp with h | h
        · exact h ▸ .head _
        · rcases List.mem_cons.mp h with h | h
          · exact h ▸ .tail _ (.head _)
          · exact .tail _ (.tail _ (eT2 ▸ .tail _ h))
      · rcases List.mem_cons.mp hp with h | h
        · exact h ▸ hneD
        · rcases List.mem_cons.mp h with h | h
          · exact h ▸ hneT
          · exact (hl3 p h).2.2
  · clear FF NN RR q1 q2 f1 f2
    rintro m₁ news₁ h tk ⟨e1, e2, e3, ks₁, tops₁, tcc, rfl, l⟩ F₁ N₁
    obtain ⟨mv, ht2⟩ := l.part.all
    generalize eT2 : kfps ks₁ ++ rest = T2 at N₁
    have sub2 : ∀ p ∈ rest, p ∈ T2 := fun p hp => eT2 ▸ List.mem_append_right _ hp
    have n1 := sub2 _ m1
    have g1 : ∀ p ∈ T2, p.1 ≠ dx := fun p hp => (l.off p (eT2 ▸ hp)).1
    have g2 : ∀ p ∈ T2, p.1 ≠ tp := fun p hp => (l.off p (eT2 ▸ hp)).2
    walk_at "mine steps"
    subst eT2
    all_goals (exact k _ _ _ _ _ _ (by k_asm) (by k_asm) l.kids mv ht2)
end
open PySem PySem.W PyProof.Rows
/-! the leaves are cursors -/
theorem LeafIn.mono {rest rest' : Led} {c dx o r : Addr} {vs : Array Value} {n2 : Nat} {R : List Row} (h : LeafIn rest c dx o r vs n2 R) (hs : ∀ p ∈ rest, p ∈ rest') : LeafIn rest' c dx o r vs n2 R :=
  ⟨hs _ h.inst, hs _ h.lst, h.len, fun i k v hx => by obtain ⟨a, t1, t2, n, e1, e2⟩ := h.row i k v hx; exact ⟨a, t1, t2, n, e1, hs _ e2⟩, h.ok, h.small, h.ord.mono hs⟩
def placeI (R : List Row) (p : Int) : Option Nat := if 0 ≤ p ∧ p < R.length then some p.toNat else none
def LeafC : CurP := fun fp rest c kd R st => kd = false ∧ ∃ (dx o r : Addr) (vs : Array Value) (n2 : Nat) (q : LP) (p : Int) (t : Tok), fp = [(dx, LD q r o p t)] ∧ LeafIn rest c dx o r vs n2 R ∧ R.Pairwise (fun a b => cmpI a.1 b.1 ≤ 0) ∧ st = placeI R p
theorem placeI_some {R : List Row} {p : Int} {i : Nat} (h : some i = placeI R p) : 0 ≤ p ∧ p < R.length ∧ i = p.toNat := by
  unfold placeI at h
  split at h
  · rename_i g; cases h; exact ⟨g.1, g.2, rfl⟩
  · cases h
theorem cut_of {e : IK} : ∀ {R : List Row}, R.Pairwise (fun a b => cmpI a.1 b.1 ≤ 0) → ∀ (j : Nat) (x : Row), R[j]? = some x → (cmpI x.1 e < 0 ↔ j < (R.takeWhile fun x => decide (cmpI x.1 e < 0)).length)
  | [], _, j, x, h => by simp at h
  | a :: R, hp, j, x, h => by
    have h1 := List.pairwise_cons.mp hp
    rw [List.takeWhile_cons]
    by_cases ha : cmpI a.1 e < 0
    · simp only [ha, decide_true, if_true, List.length_cons]
      cases j with
      | zero => simp only [List.getElem?_cons_zero, Option.some.injEq] at h; subst h; simp [ha]
      | succ j => rw [List.getElem?_cons_succ] at h; rw [cut_of h1.2 j x h]; omega
    · simp only [ha, decide_false, Bool.false_eq_true, if_false, List.length_nil, Nat.not_lt_zero, iff_false]
      cases j with
      | zero => simp only [List.getElem?_cons_zero, Option.some.injEq] at h; subst h; exact ha
      | succ j =>
        rw [List.getElem?_cons_succ] at h
        exact fun g => ha (cmpI_trans_lt (h1.1 x (List.mem_of_getElem? h)) g)
section
set_option maxRecDepth 100000
set_option maxHeartbeats 8000000
theorem off_leaf {dx : Addr} {o : Obj} {E0 : Led} (h : Off [(dx, o)] E0) : ∀ p ∈ E0, p.1 ≠ dx := fun p hp => h _ (.head _) p hp
theorem leaf_spec (w : World) : CurSpec w 6 LeafC where
  mono := by
    rintro fp rest rest' c kd R st ⟨h1, dx, o, r, vs, n2, q, p, t, h2, h3, h4, h5⟩ hs
    exact ⟨h1, dx, o, r, vs, n2, q, p, t, h2, h3.mono hs, h4, h5⟩
  obj := by
    rintro fp rest c kd R st ⟨rfl, dx, o, r, vs, n2, q, p, t, rfl, h3, h4, h5⟩
    exact ⟨dx, _, _, h3.inst, .head _, fun mn => by cases mn <;> rfl⟩
  ok := by
    rintro fp rest c kd R st ⟨rfl, dx, o, r, vs, n2, q, p, t, rfl, h3, h4, h5⟩
    exact h3.ok
  size := by
    rintro fp rest c kd R st ⟨rfl, dx, o, r, vs, n2, q, p, t, rfl, h3, h4, rfl⟩
    refine ⟨by have := h3.small; omega, fun i hi => ?_⟩
    have := placeI_some hi.symm
    omega
  valid := by
    rintro fp rest E0 c kd R st ⟨rfl, dx, o, r, vs, n2, q, p, t, rfl, h3, h4, rfl⟩ hs
    intro dp un gd cn cs a ccd cl outer A₀ base h₀ L m mg mb mean s Q E B F X N T hk hd hu k
    refine lvalid_r B F X N T hk (by omega) (by omega) (h3.mono hs) fun h' tk' F' N' => k _ _ _ _ F' N' ⟨?_, rfl⟩
    unfold placeI
    split
    · rename_i g; simp [g]
    · rename_i g; rw [Option.isSome_none]; congr 1; simpa using g
  key := by
    rintro fp rest E0 c kd R i y ⟨rfl, dx, o, r, vs, n2, q, p, t, rfl, h3, h4, h5⟩ hy hs
    intro dp un gd cn cs a ccd cl outer A₀ base h₀ L m mg mb mean s Q E B F X N T hk hd hu k
    obtain ⟨g1, g2, rfl⟩ := placeI_some h5
    exact lkey_r B F X N T hk (by omega) (by omega) (h3.mono hs) g1 hy fun t' h' tk' F' N' => k _ _ _ _ F' N' ⟨⟨_, rfl⟩, rfl⟩
  value := by
    rintro fp rest E0 c kd R i y ⟨rfl, dx, o, r, vs, n2, q, p, t, rfl, h3, h4, h5⟩ hy hs
    intro dp un gd cn cs a ccd cl outer A₀ base h₀ L m mg mb mean s Q E B F X N T hk hd hu k
    obtain ⟨g1, g2, rfl⟩ := placeI_some h5
    exact lvalue_r B F X N T hk (by omega) (by omega) (h3.mono hs) g1 hy fun t' h' tk' F' N' => k _ _ _ _ F' N' ⟨⟨_, rfl⟩, rfl⟩
  first := by
    rintro fp rest E0 c kd R st ⟨rfl, dx, o, r, vs, n2, q, p, t, rfl, h3, h4, h5⟩ hs hoff
    intro dp un gd cn cs a ccd cl outer A₀ base h₀ L m mg mb mean s Q E B F X N T hk hd hu k
    refine lfirst_r B F X N T hk (by omega) (by omega) (h3.mono hs) (off_leaf hoff) fun t' h' tk' F' N' => k _ [(dx, LD q r o 0 t')] _ _ F' N' ⟨rfl, rfl, rfl, dx, o, r, vs, n2, q, 0, t', rfl, h3, h4, ?_⟩
    unfold firstAt placeI
    cases R <;> simp
  last := by
    rintro fp rest E0 c kd R st ⟨rfl, dx, o, r, vs, n2, q, p, t, rfl, h3, h4, h5⟩ hs hoff
    intro dp un gd cn cs a ccd cl outer A₀ base h₀ L m mg mb mean s Q E B F X N T hk hd hu k
    refine llast_r B F X N T hk (by omega) (by omega) (h3.mono hs) (off_leaf hoff) fun t' h' tk' F' N' => k _ [(dx, LD q r o ((R.length : Int) - 1) t')] _ _ F' N' ⟨rfl, rfl, rfl, dx, o, r, vs, n2, q, _, t', rfl, h3, h4, ?_⟩
    unfold lastAt placeI
    cases R with
    | nil => simp
    | cons y R => rw [if_neg (by simp), if_pos (by simp only [List.length_cons]; omega)]; congr 1; omega
  seek := by
    rintro fp rest E0 c kd R st e te ⟨rfl, dx, o, r, vs, n2, q, p, t, rfl, h3, h4, h5⟩ hs hoff he
    intro dp un gd cn cs a ccd cl outer A₀ base h₀ L m mg mb mean s Q E B F X N T hk hd hu k
    refine lseek_r B F X N T hk (by omega) (by omega) (h3.mono hs) (off_leaf hoff) he (ltLen_le R e) (cut_of h4) fun t' h' tk' F' N' => k _ [(dx, LD q r o ((ltLen R e : Nat) : Int) t')] _ _ F' N' ⟨rfl, rfl, rfl, dx, o, r, vs, n2, q, _, t', rfl, h3, h4, ?_⟩
    rw [seekAt_eq]
    unfold placeOf placeI
    by_cases g : ltLen R e < R.length
    · rw [if_pos g, if_pos (by omega)]; rfl
    · rw [if_neg g, if_neg (by omega)]
  step := by
    rintro fp rest E0 c kd R i ⟨rfl, dx, o, r, vs, n2, q, p, t, rfl, h3, h4, h5⟩ hs hoff
    intro dp un gd cn cs a ccd cl outer A₀ base h₀ L m mg mb mean s Q E B F X N T hk hd hu k
    obtain ⟨g1, g2, rfl⟩ := placeI_some h5
    refine lstep_r B F X N T hk (by omega) (by omega) (h3.mono hs) (off_leaf hoff) g1 g2 fun t' h' tk' F' N' => k _ [(dx, LD q r o (p + 1) t')] _ _ F' N' ⟨rfl, rfl, rfl, dx, o, r, vs, n2, q, _, t', rfl, h3, h4, ?_⟩
    unfold nextAt placeI
    by_cases g : p.toNat + 1 < R.length
    · rw [if_pos g, if_pos (by omega)]; congr 1; omega
    · rw [if_neg g, if_neg (by omega)]
  back := by
    rintro fp rest E0 c kd R i ⟨rfl, dx, o, r, vs, n2, q, p, t, rfl, h3, h4, h5⟩ hs hoff
    intro dp un gd cn cs a ccd cl outer A₀ base h₀ L m mg mb mean s Q E B F X N T hk hd hu k
    obtain ⟨g1, g2, rfl⟩ := placeI_some h5
    refine lback_r B F X N T hk (by omega) (by omega) (h3.mono hs) (off_leaf hoff) g1 g2 fun t' h' tk' F' N' => k _ [(dx, LD q r o (p - 1) t')] _ _ F' N' ⟨rfl, rfl, rfl, dx, o, r, vs, n2, q, _, t', rfl, h3, h4, ?_⟩
    unfold prevAt placeI
    by_cases g : p.toNat = 0
    · rw [if_pos g, if_neg (by omega)]
    · rw [if_neg g, if_pos (by omega)]; congr 1; omega
end
/-! a cursor whose own part hangs on a given rest -/
def FixC (C : CurP) (r0 : Led) : CurP := fun fp rest c kd R st => C fp r0 c kd R st ∧ ∀ p ∈ r0, p ∈ rest
theorem CurSpec.fix {w : World} {D : Nat} {C : CurP} (S : CurSpec w D C) (r0 : Led) : CurSpec w D (FixC C r0) where
  mono := fun h hs => ⟨h.1, fun p hp => hs p (h.2 p hp)⟩
  obj := fun h => by obtain ⟨dx, es, n, a, b, c⟩ := S.obj h.1; exact ⟨dx, es, n, h.2 _ a, b, c⟩
  ok := fun h => S.ok h.1
  size := fun h => S.size h.1
  valid := fun h hs => S.valid h.1 fun p hp => hs p (h.2 p hp)
  key := fun h hx hs => S.key h.1 hx fun p hp => hs p (h.2 p hp)
  value := fun h hx hs => S.value h.1 hx fun p hp => hs p (h.2 p hp)
  first := fun h hs ho => by
    intro dp un gd cn cs a ccd cl outer A₀ base h₀ L m mg mb mean s Q E B F X N T hk hd hu k
    exact S.first h.1 (fun p hp => hs p (h.2 p hp)) ho dp un gd cn cs a ccd cl outer A₀ base h₀ L m mg mb mean s Q E B F X N T hk hd hu fun r fp' h' tk' F' N' g => k r fp' h' tk' F' N' ⟨g.1, g.2.1, g.2.2, h.2⟩
  last := fun h hs ho => by
    intro dp un gd cn cs a ccd cl outer A₀ base h₀ L m mg mb mean s Q E B F X N T hk hd hu k
    exact S.last h.1 (fun p hp => hs p (h.2 p hp)) ho dp un gd cn cs a ccd cl outer A₀ base h₀ L m mg mb mean s Q E B F X N T hk hd hu fun r fp' h' tk' F' N' g => k r fp' h' tk' F' N' ⟨g.1, g.2.1, g.2.2, h.2⟩
  seek := fun h hs ho he => by
    intro dp un gd cn cs a ccd cl outer A₀ base h₀ L m mg mb mean s Q E B F X N T hk hd hu k
    exact S.seek h.1 (fun p hp => hs p (h.2 p hp)) ho he dp un gd cn cs a ccd cl outer A₀ base h₀ L m mg mb mean s Q E B F X N T hk hd hu fun r fp' h' tk' F' N' g => k r fp' h' tk' F' N' ⟨g.1, g.2.1, g.2.2, h.2⟩
  step := fun h hs ho => by
    intro dp un gd cn cs a ccd cl outer A₀ base h₀ L m mg mb mean s Q E B F X N T hk hd hu k
    exact S.step h.1 (fun p hp => hs p (h.2 p hp)) ho dp un gd cn cs a ccd cl outer A₀ base h₀ L m mg mb mean s Q E B F X N T hk hd hu fun r fp' h' tk' F' N' g => k r fp' h' tk' F' N' ⟨g.1, g.2.1, g.2.2, h.2⟩
  back := fun h hs ho => by
    intro dp un gd cn cs a ccd cl outer A₀ base h₀ L m mg mb mean s Q E B F X N T hk hd hu k
    exact S.back h.1 (fun p hp => hs p (h.2 p hp)) ho dp un gd cn cs a ccd cl outer A₀ base h₀ L m mg mb mean s Q E B F X N T hk hd hu fun r fp' h' tk' F' N' g => k r fp' h' tk' F' N' ⟨g.1, g.2.1, g.2.2, h.2⟩
open PySem PySem.W PyProof.Rows
set_option hygiene false in
local macro_rules | `(tactic| walk_at "mine stepsL") => `(tactic| repeat' (first
  | ((fail_if_success (with_reducible show wpAny _ _ (exec (PySem.Stmt.While _ _ _ _) _) _ _ _)); (fail_if_success (with_reducible show wpAny _ _ (pyIter _) _ _ _)); (fail_if_success (with_reducible show wpAny _ _ (call (Value.ref (Mine.adr _ MN.first)) _) _ _ _)); (fail_if_success (with_reducible show wpAny _ _ (call (Value.ref (Mine.adr _ MN.last)) _) _ _ _)); (fail_if_success (with_reducible show wpAny _ _ (call (Value.ref (Mine.adr _ MN.seek)) _) _ _ _)); (fail_if_success (with_reducible show wpAny _ _ (call (Value.ref (Mine.adr _ MN.step)) _) _ _ _)); (fail_if_success (with_reducible show wpAny _ _ (call (Value.ref (Mine.adr _ MN.back)) _) _ _ _));
     (fail_if_success (with_reducible show wpAny _ _ (call (Value.ref 412) _) _ _ _)); (fail_if_success (with_reducible show wpAny _ _ (call (Value.ref 419) _) _ _ _)); (fail_if_success (with_reducible show wpAny _ _ (call (Value.ref 461) _) _ _ _)); (fail_if_success (with_reducible show wpAny _ _ (call (Value.ref 468) _) _ _ _)); (fail_if_success (with_reducible show wpAny _ _ (call (Value.ref 475) _) _ _ _));
     (first | (k_unfold; (try dsimp only)) | walk1 | (dsimp only; walk1) | (leave1; walk_say "STEP leave1"; (try dsimp only)) | fail "no step"))))
theorem Moved.one {ks : List KS} {av : Nat} {ka : KS} {fp' : Led} {st' : Option Nat} (hk : ks[av]? = some ka) (ha : sameAdr fp' ka.fp) : Moved (fun i k => if i = av then st' else k.st) ks (ks.set av { ka with fp := fp', st := st' }) where
  len := by rw [List.length_set]
  at_ := fun i k hi => by
    by_cases e : av = i
    · subst e
      rw [hk] at hi; cases hi
      refine ⟨fp', ?_, ha⟩
      rw [List.getElem?_set_self (List.getElem?_eq_some_iff.mp hk).1, if_pos rfl]
    · refine ⟨k.fp, ?_, rfl⟩
      rw [List.getElem?_set_ne e, hi, if_neg (fun h => e h.symm)]
theorem TopsAre.set {tops : Array Value} {ks : List KS} {av : Nat} {k2 : KS} {v : Value} (h : TopsAre tops (ks.map KS.key)) (hv : TopV k2.key v) : TopsAre (tops.setIfInBounds av v) ((ks.set av k2).map KS.key) := by
  refine ⟨by rw [Array.size_setIfInBounds, List.length_map, List.length_set]; simpa using h.1, fun i k hk => ?_⟩
  rw [List.getElem?_map] at hk
  by_cases e : av = i
  · subst e
    obtain ⟨k', hk', rfl⟩ := Option.map_eq_some_iff.mp hk
    have hl : av < ks.length := by
      have := (List.getElem?_eq_some_iff.mp hk').1
      rwa [List.length_set] at this
    rw [List.getElem?_set_self hl] at hk'
    cases hk'
    have hs : av < tops.size := by have := h.1; rw [List.length_map] at this; omega
    exact ⟨v, by rw [Array.getElem?_setIfInBounds_self_of_lt hs], hv⟩
  · rw [List.getElem?_set_ne e] at hk
    obtain ⟨v2, a, b⟩ := h.2 i k (by rw [List.getElem?_map]; exact hk)
    exact ⟨v2, by rw [Array.getElem?_setIfInBounds_ne e]; exact a, b⟩
theorem keys_ok {w : World} {D : Nat} {C : CurP} {rest : Led} {ks : List KS} (S : CurSpec w D C) (K : KidsIn C rest ks) : ∀ e, some e ∈ ks.map KS.key → e.Ok := fun e he => by
  obtain ⟨kk, hkk, ek⟩ := List.mem_map.mp he
  unfold KS.key at ek
  obtain ⟨j, hj, ej⟩ := Option.bind_eq_some_iff.mp ek
  obtain ⟨xr, hxr, rfl⟩ := Option.map_eq_some_iff.mp ej
  exact S.ok (K.cur _ hkk) _ (List.mem_of_getElem? hxr)
theorem Moved.adr {f : Nat → KS → Option Nat} {ks ks' : List KS} (h : Moved f ks ks') : ∀ p ∈ kfps ks', ∃ p' ∈ kfps ks, p'.1 = p.1 := fun p hp => by
  obtain ⟨k, hk, hp⟩ := List.mem_flatMap.mp hp
  obtain ⟨i, hi⟩ := List.mem_iff_getElem?.mp hk
  have hl : i < ks.length := by rw [← h.len]; exact (List.getElem?_eq_some_iff.mp hi).1
  obtain ⟨fp', a, b⟩ := h.at_ i _ (List.getElem?_eq_getElem hl)
  rw [hi] at a
  cases a
  have : p.1 ∈ (ks[i]).fp.map (·.1) := b ▸ List.mem_map_of_mem hp
  obtain ⟨p', hp', e⟩ := List.mem_map.mp this
  exact ⟨p', mem_kfps (List.getElem_mem hl) p' hp', e⟩
section
variable {w : World} {dp un : Nat} {gd : Option (List Code)} {cn : Str} {cs : Scope} {a : Addr} {ccd : Value} {cl : List (Str × Addr)} {outer : List Env} {A₀ : Around} {base h₀ : Heap} {L : Addr} {m mg mb : Str → Option Value} {mean : ExcName → Option Value} {s : Shared} {rest : Led}
  {Q E : Value → Shared → Prop} {D : Nat} {C : CurP} {x dx ch tp o : Addr} {q : MP} {cur going : Int} {tc tg : Tok} {tops : Array Value} {nt : Nat} {ks : List KS} {kc : KS}
set_option maxRecDepth 100000 in
set_option maxHeartbeats 8000000 in
theorem mvalid_r  (B : Below A₀ base outer h₀) (F : Fr h₀ L s.heap m) (X : (Mine.hd.heap_39 w.params).In h₀) (N : News h₀ L s.heap ((dx, MD q ch tp o cur tc going tg) :: (tp, listOf tops nt) :: rest)) (T : Top VW (looseW VW []) mean mg mb h₀) (hk : cs.kind = .function) (hd : dp + (D + 1) < recursionLimit) (hu : un + 8 * (D + 1) < cLine)
    (m1 : (x, instObj 506 dx) ∈ rest) (k : ∀ h' tk', Fr h₀ L h' m → News h₀ L h' ((dx, MD q ch tp o cur tc going tg) :: (tp, listOf tops nt) :: rest) → Q (.bool (decide (0 ≤ cur))) { s with heap := h', toks := tk' }) :
    wpAny (model Challenge.rw_no0415_01.row.prog w) (ktrTop dp un gd cn cs L a ccd cl outer) (call (.ref 426) [.ref x]) Q E s := by
  walk_at "mine begin"
  walk_at "mine steps"
  all_goals (exact k _ _ (by k_asm) (by k_asm))
set_option maxRecDepth 100000 in
set_option maxHeartbeats 8000000 in
theorem mkey_r {v : Value} (B : Below A₀ base outer h₀) (F : Fr h₀ L s.heap m) (X : (Mine.hd.heap_39 w.params).In h₀) (N : News h₀ L s.heap ((dx, MD q ch tp o cur tc going tg) :: (tp, listOf tops nt) :: rest)) (T : Top VW (looseW VW []) mean mg mb h₀) (hk : cs.kind = .function) (hd : dp + (D + 2) < recursionLimit) (hu : un + 8 * (D + 2) < cLine)
    (m1 : (x, instObj 506 dx) ∈ rest) (h0 : 0 ≤ cur) (h1 : cur < 10000) (hx : tops[cur.toNat]? = some v) (k : ∀ h' tk', Fr h₀ L h' m → News h₀ L h' ((dx, MD q ch tp o cur tc going tg) :: (tp, listOf tops nt) :: rest) → Q (v) { s with heap := h', toks := tk' }) :
    wpAny (model Challenge.rw_no0415_01.row.prog w) (ktrTop dp un gd cn cs L a ccd cl outer) (call (.ref 496) [.ref x]) Q E s := by
  walk_at "mine begin"
  walk_at "mine steps"
  all_goals (exact k _ _ (by k_asm) (by k_asm))
set_option maxRecDepth 100000 in
set_option maxHeartbeats 8000000 in
theorem mvalue_r {i : Nat} {y : Row} {cv : Array Value} {nc : Nat} (B : Below A₀ base outer h₀) (F : Fr h₀ L s.heap m) (X : (Mine.hd.heap_39 w.params).In h₀) (N : News h₀ L s.heap ((dx, MD q ch tp o cur tc going tg) :: (tp, listOf tops nt) :: rest)) (T : Top VW (looseW VW []) mean mg mb h₀) (hk : cs.kind = .function) (hd : dp + (D + 2) < recursionLimit) (hu : un + 8 * (D + 2) < cLine)
    (S : CurSpec w D C) (hC : C kc.fp rest kc.c kc.kd kc.R (some i)) (hT : ∀ p ∈ kc.fp, p ∈ rest) (hx : kc.R[i]? = some y) (m1 : (x, instObj 506 dx) ∈ rest) (m2 : (ch, listOf cv nc) ∈ rest) (h0 : 0 ≤ cur) (h1 : cur < 10000) (hcv : cv[cur.toNat]? = some (.ref kc.c)) (k : ∀ t' h' tk', Fr h₀ L h' m → News h₀ L h' ((dx, MD q ch tp o cur tc going tg) :: (tp, listOf tops nt) :: rest) → Q (.bytes y.2 t') { s with heap := h', toks := tk' }) :
    wpAny (model Challenge.rw_no0415_01.row.prog w) (ktrTop dp un gd cn cs L a ccd cl outer) (call (.ref 503) [.ref x]) Q E s := by
  walk_at "mine begin"
  walk_at "mine steps"
  all_goals (exact k _ _ _ (by k_asm) (by k_asm))
set_option maxRecDepth 100000 in
set_option maxHeartbeats 8000000 in
theorem mstep0_r {ka : KS} {cv : Array Value} {nc av ia : Nat} {y : Row} (B : Below A₀ base outer h₀) (F : Fr h₀ L s.heap m) (X : (Mine.hd.heap_39 w.params).In h₀) (N : News h₀ L s.heap ((dx, MD q ch tp o ((av : Nat) : Int) tc 0 tg) :: (tp, listOf tops nt) :: (kfps ks ++ rest))) (T : Top VW (looseW VW []) mean mg mb h₀) (hk : cs.kind = .function) (hd : dp + (D + 16) < recursionLimit) (hu : un + 8 * (D + 16) < cLine)
    (S : CurSpec w D C) (K : KidsIn C rest ks) (m1 : (x, instObj 506 dx) ∈ rest) (m2 : (ch, listOf cv nc) ∈ rest) (hcl : cv.size = ks.length) (hcv : ∀ (i : Nat) k, ks[i]? = some k → cv[i]? = some (.ref k.c)) (hts : tops.size = ks.length) (ord : OrdIn rest o) (hn : ks.length ≤ 1000) (offx : ∀ p ∈ kfps ks ++ rest, p.1 ≠ dx ∧ p.1 ≠ tp) (off3 : @Ne Nat dx tp) (hka : ks[av]? = some ka) (hst : ka.st = some ia) (hx : ka.R[ia]? = some y) (htops : TopsAre tops (ks.map KS.key)) (k : ∀ t' t2 tops' ks' h' tk', Fr h₀ L h' m → News h₀ L h' ((dx, MD q ch tp o (leastTo (ks'.map KS.key) (ks'.map KS.key).length) t' 0 t2) :: (tp, listOf tops' nt) :: (kfps ks' ++ rest)) → KidsIn C rest ks' → Moved (fun i k => if i = av then nextAt ka.R ia else k.st) ks ks' → TopsAre tops' (ks'.map KS.key) → Q (.none) { s with heap := h', toks := tk' }) :
    wpAny (model Challenge.rw_no0415_01.row.prog w) (ktrTop dp un gd cn cs L a ccd cl outer) (call (.ref 482) [.ref x]) Q E s := by
  have hcl2 : (cv.size : Int) = (ks.length : Int) := by omega
  have hav1 : av < ks.length := (List.getElem?_eq_some_iff.mp hka).1
  have hcv1 : cv[((av : Nat) : Int).toNat]? = some (.ref ka.c) := hcv av ka hka
  generalize hTT : kfps ks ++ rest = TT at N
  have q1 : (x, instObj 506 dx) ∈ TT := hTT ▸ List.mem_append_right _ m1
  have q2 : (ch, listOf cv nc) ∈ TT := hTT ▸ List.mem_append_right _ m2
  have f1 : ∀ p ∈ TT, p.1 ≠ dx := fun p hp => (offx p (hTT ▸ hp)).1
  have f2 : ∀ p ∈ TT, p.1 ≠ tp := fun p hp => (offx p (hTT ▸ hp)).2
  walk_at "mine begin"
  have hmem := List.mem_of_getElem? hka
  have hC : C ka.fp TT ka.c ka.kd ka.R ka.st := S.mono (K.cur _ hmem) fun p hp => hTT ▸ List.mem_append_right _ hp
  have hT : ∀ p ∈ ka.fp, p ∈ TT := fun p hp => hTT ▸ List.mem_append_left _ (mem_kfps hmem p hp)
  walk_at "mine stepsL"
  rename News _ _ _ _ => NN
  obtain ⟨tcc, NN⟩ : ∃ tcc, News _ _ _ ((dx, MD q ch tp o (-1) tcc 0 tg) :: (tp, listOf tops nt) :: TT) := ⟨_, NN⟩
  refine' kid_call (ext := [(dx, MD q ch tp o (-1) tcc 0 tg), (tp, listOf tops nt)]) K hka (fun h1 h2 => S.step (hst ▸ K.cur _ hmem) h1 h2) ?B ?F ?X ?N ?T ?hk ?hd ?hu ?_ ?_ ?_
  walk_at "mine std"
  · intro p hp
    rw [hTT] at hp
    exact hp
  · intro p hp p' hp'
    have z := offx p (List.mem_append_left _ (mem_kfps hmem p hp))
    simp only [List.mem_cons, List.not_mem_nil, or_false] at hp'
    rcases hp' with rfl | rfl
    · exact fun e => z.1 e.symm
    · exact fun e => z.2 e.symm
  clear NN hC hT q1 q2 f1 f2
  subst hTT
  intro fp' h' tk' F' N' ha K2
  simp only [List.cons_append, List.nil_append] at N'
  obtain ⟨k2, hk2⟩ : ∃ k2 : KS, k2 = { ka with fp := fp', st := nextAt ka.R ia } := ⟨_, rfl⟩
  have hmem2 : k2 ∈ (ks).set av k2 := List.mem_of_getElem? (List.getElem?_set_self hav1)
  have mv := Moved.one (st' := nextAt ka.R ia) hka ha
  rw [← hk2] at N' K2 mv
  have hl2 : ∀ p ∈ kfps ((ks).set av k2) ++ rest, p.1 ≠ dx ∧ p.1 ≠ tp := fun p hp => by
    rcases List.mem_append.mp hp with h | h
    · obtain ⟨p', hp', e⟩ := adr_set (k' := k2) hka (by rw [hk2]; exact ha) p h
      rw [← e]; exact offx p' (List.mem_append_left _ hp')
    · exact offx p (List.mem_append_right _ h)
  generalize eT2 : kfps ((ks).set av k2) ++ rest = T2 at N'
  have sub2 : ∀ p ∈ rest, p ∈ T2 := fun p hp => eT2 ▸ List.mem_append_right _ hp
  have hC2 : C k2.fp T2 k2.c k2.kd k2.R k2.st := S.mono (K2.cur _ hmem2) sub2
  have hT2 : ∀ p ∈ k2.fp, p ∈ T2 := fun p hp => eT2 ▸ List.mem_append_left _ (mem_kfps hmem2 p hp)
  have n1 := sub2 _ m1
  have n2 := sub2 _ m2
  have hcv2 : cv[av]? = some (.ref k2.c) := by rw [hk2]; exact hcv av ka hka
  have g1 : ∀ p ∈ T2, p.1 ≠ dx := fun p hp => (hl2 p (eT2 ▸ hp)).1
  have g2 : ∀ p ∈ T2, p.1 ≠ tp := fun p hp => (hl2 p (eT2 ▸ hp)).2
  walk_at "mine stepsL"
  rename TopV _ _ => VV
  have ht2 := htops.set (av := av) VV
  have ord2 := ord.mono sub2
  have hok2 := keys_ok S K2
  have hlen2 : (((ks).set av k2).map KS.key).length ≤ 1000 := by rw [List.length_map, List.length_set]; exact hn
  walk_at "mine steps"
  subst eT2
  all_goals (exact k _ _ _ _ _ _ (by k_asm) (by k_asm) K2 mv ht2)
end
open PySem PySem.W PyProof.Rows
section
variable {w : World} {dp un : Nat} {gd : Option (List Code)} {cn : Str} {cs : Scope} {a : Addr} {ccd : Value} {cl : List (Str × Addr)} {outer : List Env} {A₀ : Around} {base h₀ : Heap} {L : Addr} {m mg mb : Str → Option Value} {mean : ExcName → Option Value} {s : Shared} {rest : Led}
  {Q E : Value → Shared → Prop} {D : Nat} {C : CurP} {x dx ch tp o : Addr} {q : MP} {cur going : Int} {tc tg : Tok} {tops : Array Value} {nt : Nat} {ks : List KS} {kc : KS}
set_option maxRecDepth 100000 in
set_option maxHeartbeats 8000000 in
theorem mstep1_r {ka : KS} {cv : Array Value} {nc av ia : Nat} {y : Row} (B : Below A₀ base outer h₀) (F : Fr h₀ L s.heap m) (X : (Mine.hd.heap_39 w.params).In h₀) (N : News h₀ L s.heap ((dx, MD q ch tp o ((av : Nat) : Int) tc 1 tg) :: (tp, listOf tops nt) :: (kfps ks ++ rest))) (T : Top VW (looseW VW []) mean mg mb h₀) (hk : cs.kind = .function) (hd : dp + (D + 16) < recursionLimit) (hu : un + 8 * (D + 16) < cLine)
    (S : CurSpec w D C) (K : KidsIn C rest ks) (m1 : (x, instObj 506 dx) ∈ rest) (m2 : (ch, listOf cv nc) ∈ rest) (hcl : cv.size = ks.length) (hcv : ∀ (i : Nat) k, ks[i]? = some k → cv[i]? = some (.ref k.c)) (hts : tops.size = ks.length) (ord : OrdIn rest o) (hn : ks.length ≤ 1000) (offx : ∀ p ∈ kfps ks ++ rest, p.1 ≠ dx ∧ p.1 ≠ tp) (off3 : @Ne Nat dx tp) (hka : ks[av]? = some ka) (hst : ka.st = some ia) (hx : ka.R[ia]? = some y) (htops : TopsAre tops (ks.map KS.key)) (k : ∀ t' t2 tops' ks1 ks' h' tk', Fr h₀ L h' m → News h₀ L h' ((dx, MD q ch tp o (leastTo (ks'.map KS.key) (ks'.map KS.key).length) t' 0 t2) :: (tp, listOf tops' nt) :: (kfps ks' ++ rest)) → KidsIn C rest ks' → Moved (fun i k => if i = av then k.st else if i < av then afterAt k.R y.1 else seekAt k.R y.1) ks ks1 → Moved (fun i k => if i = av then nextAt ka.R ia else k.st) ks1 ks' → TopsAre tops' (ks'.map KS.key) → Q (.none) { s with heap := h', toks := tk' }) :
    wpAny (model Challenge.rw_no0415_01.row.prog w) (ktrTop dp un gd cn cs L a ccd cl outer) (call (.ref 482) [.ref x]) Q E s := by
  have hcl2 : (cv.size : Int) = (ks.length : Int) := by omega
  have hav1 : av < ks.length := (List.getElem?_eq_some_iff.mp hka).1
  have hcv1 : cv[((av : Nat) : Int).toNat]? = some (.ref ka.c) := hcv av ka hka
  generalize hTT : kfps ks ++ rest = TT at N
  have q1 : (x, instObj 506 dx) ∈ TT := hTT ▸ List.mem_append_right _ m1
  have q2 : (ch, listOf cv nc) ∈ TT := hTT ▸ List.mem_append_right _ m2
  have f1 : ∀ p ∈ TT, p.1 ≠ dx := fun p hp => (offx p (hTT ▸ hp)).1
  have f2 : ∀ p ∈ TT, p.1 ≠ tp := fun p hp => (offx p (hTT ▸ hp)).2
  have hk0 : ka.key = some y.1 := by unfold KS.key; rw [hst]; show (ka.R[ia]?).map (·.1) = _; rw [hx]; rfl
  have hy : y.1.Ok := S.ok (K.cur _ (List.mem_of_getElem? hka)) _ (List.mem_of_getElem? hx)
  obtain ⟨te, htv⟩ : ∃ te, tops[av]? = some (.bytes (ikb y.1) te) := by
    obtain ⟨v, a, b⟩ := htops.2 av ka.key (by rw [List.getElem?_map, hka]; rfl)
    rw [hk0] at b
    obtain ⟨t, rfl⟩ := b
    exact ⟨t, a⟩
  walk_at "mine begin"
  walk_at "mine stepsL"
  subst hTT
  refine' tfwd_r ?B ?F ?X ?N ?T ?hk ?hd ?hu S K m1 m2 hcl hcv hts ord hn offx off3 hka hk0 hy htv ?_
  walk_at "mine std"
  clear q1 q2 f1 f2
  intro t1 t2 tops1 ks1 h' tk' F' N' K1 mv1 htops1
  obtain ⟨fpa, hka1, ha1⟩ := mv1.at_ av ka hka
  rw [if_pos rfl] at hka1
  obtain ⟨ka1, ea⟩ : ∃ ka1 : KS, ka1 = { ka with fp := fpa, st := ka.st } := ⟨_, rfl⟩
  rw [← ea] at hka1
  have hst1 : ka1.st = some ia := by rw [ea]; exact hst
  have hR1 : ka1.R = ka.R := by rw [ea]
  have hcl1 : cv.size = ks1.length := by rw [mv1.len]; exact hcl
  have hts1 : tops1.size = ks1.length := by have := htops1.1; rwa [List.length_map] at this
  have hn1 : ks1.length ≤ 1000 := by rw [mv1.len]; exact hn
  have hcvs1 : ∀ (i : Nat) k, ks1[i]? = some k → cv[i]? = some (.ref k.c) := fun i k hk => by
    have hi : i < ks.length := by rw [← mv1.len]; exact (List.getElem?_eq_some_iff.mp hk).1
    obtain ⟨fp3, b1, b2⟩ := mv1.at_ i _ (List.getElem?_eq_getElem hi)
    rw [hk] at b1
    have e8 : k.c = (ks[i]).c := by rw [Option.some.inj b1]
    rw [e8]
    exact hcv i _ (List.getElem?_eq_getElem hi)
  have offx1 : ∀ p ∈ kfps ks1 ++ rest, p.1 ≠ dx ∧ p.1 ≠ tp := fun p hp => by
    rcases List.mem_append.mp hp with h | h
    · obtain ⟨p', hp', e⟩ := mv1.adr p h
      rw [← e]; exact offx p' (List.mem_append_left _ hp')
    · exact offx p (List.mem_append_right _ h)
  have hcv1 : cv[((av : Nat) : Int).toNat]? = some (.ref ka1.c) := hcvs1 av ka1 hka1
  have hcl2 : (cv.size : Int) = (ks1.length : Int) := by omega
  have hav1 : av < ks1.length := by rw [mv1.len]; exact hav1
  generalize hTT : kfps ks1 ++ rest = TT at N'
  have q1 : (x, instObj 506 dx) ∈ TT := hTT ▸ List.mem_append_right _ m1
  have q2 : (ch, listOf cv nc) ∈ TT := hTT ▸ List.mem_append_right _ m2
  have f1 : ∀ p ∈ TT, p.1 ≠ dx := fun p hp => (offx1 p (hTT ▸ hp)).1
  have f2 : ∀ p ∈ TT, p.1 ≠ tp := fun p hp => (offx1 p (hTT ▸ hp)).2
  have hmem := List.mem_of_getElem? hka1
  have hC : C ka1.fp TT ka1.c ka1.kd ka1.R ka1.st := S.mono (K1.cur _ hmem) fun p hp => hTT ▸ List.mem_append_right _ hp
  have hT : ∀ p ∈ ka1.fp, p ∈ TT := fun p hp => hTT ▸ List.mem_append_left _ (mem_kfps hmem p hp)
  walk_at "mine stepsL"
  rename News _ _ _ _ => NN
  obtain ⟨tcc, NN⟩ : ∃ tcc, News _ _ _ ((dx, MD q ch tp o (-1) tcc 0 t2) :: (tp, listOf tops1 nt) :: TT) := ⟨_, NN⟩
  refine' kid_call (ext := [(dx, MD q ch tp o (-1) tcc 0 t2), (tp, listOf tops1 nt)]) K1 hka1 (fun h1 h2 => S.step (hst1 ▸ K1.cur _ hmem) h1 h2) ?B ?F ?X ?N ?T ?hk ?hd ?hu ?_ ?_ ?_
  walk_at "mine std"
  · intro p hp
    rw [hTT] at hp
    exact hp
  · intro p hp p' hp'
    have z := offx1 p (List.mem_append_left _ (mem_kfps hmem p hp))
    simp only [List.mem_cons, List.not_mem_nil, or_false] at hp'
    rcases hp' with rfl | rfl
    · exact fun e => z.1 e.symm
    · exact fun e => z.2 e.symm
  clear NN hC hT q1 q2 f1 f2
  subst hTT
  intro fp' h' tk' F' N' ha K2
  simp only [List.cons_append, List.nil_append] at N'
  obtain ⟨k2, hk2⟩ : ∃ k2 : KS, k2 = { ka1 with fp := fp', st := nextAt ka1.R ia } := ⟨_, rfl⟩
  have hmem2 : k2 ∈ (ks1).set av k2 := List.mem_of_getElem? (List.getElem?_set_self hav1)
  have mv := Moved.one (st' := nextAt ka1.R ia) hka1 ha
  rw [← hk2] at N' K2 mv
  have hl2 : ∀ p ∈ kfps ((ks1).set av k2) ++ rest, p.1 ≠ dx ∧ p.1 ≠ tp := fun p hp => by
    rcases List.mem_append.mp hp with h | h
    · obtain ⟨p', hp', e⟩ := adr_set (k' := k2) hka1 (by rw [hk2]; exact ha) p h
      rw [← e]; exact offx1 p' (List.mem_append_left _ hp')
    · exact offx1 p (List.mem_append_right _ h)
  generalize eT2 : kfps ((ks1).set av k2) ++ rest = T2 at N'
  have sub2 : ∀ p ∈ rest, p ∈ T2 := fun p hp => eT2 ▸ List.mem_append_right _ hp
  have hC2 : C k2.fp T2 k2.c k2.kd k2.R k2.st := S.mono (K2.cur _ hmem2) sub2
  have hT2 : ∀ p ∈ k2.fp, p ∈ T2 := fun p hp => eT2 ▸ List.mem_append_left _ (mem_kfps hmem2 p hp)
  have n1 := sub2 _ m1
  have n2 := sub2 _ m2
  have hcv2 : cv[av]? = some (.ref k2.c) := by rw [hk2]; exact hcvs1 av ka1 hka1
  have g1 : ∀ p ∈ T2, p.1 ≠ dx := fun p hp => (hl2 p (eT2 ▸ hp)).1
  have g2 : ∀ p ∈ T2, p.1 ≠ tp := fun p hp => (hl2 p (eT2 ▸ hp)).2
  walk_at "mine stepsL"
  rename TopV _ _ => VV
  have ht2 := htops1.set (av := av) VV
  have ord2 := ord.mono sub2
  have hok2 := keys_ok S K2
  have hlen2 : (((ks1).set av k2).map KS.key).length ≤ 1000 := by rw [List.length_map, List.length_set]; exact hn1
  walk_at "mine steps"
  subst eT2
  all_goals (exact k _ _ _ _ _ _ _ (by k_asm) (by k_asm) K2 mv1 (by first | exact mv | (rw [← hR1]; exact mv)) ht2)
set_option maxRecDepth 100000 in
set_option maxHeartbeats 8000000 in
theorem mback0_r {ka : KS} {cv : Array Value} {nc av ia : Nat} {y : Row} (B : Below A₀ base outer h₀) (F : Fr h₀ L s.heap m) (X : (Mine.hd.heap_39 w.params).In h₀) (N : News h₀ L s.heap ((dx, MD q ch tp o ((av : Nat) : Int) tc 1 tg) :: (tp, listOf tops nt) :: (kfps ks ++ rest))) (T : Top VW (looseW VW []) mean mg mb h₀) (hk : cs.kind = .function) (hd : dp + (D + 16) < recursionLimit) (hu : un + 8 * (D + 16) < cLine)
    (S : CurSpec w D C) (K : KidsIn C rest ks) (m1 : (x, instObj 506 dx) ∈ rest) (m2 : (ch, listOf cv nc) ∈ rest) (hcl : cv.size = ks.length) (hcv : ∀ (i : Nat) k, ks[i]? = some k → cv[i]? = some (.ref k.c)) (hts : tops.size = ks.length) (ord : OrdIn rest o) (hn : ks.length ≤ 1000) (offx : ∀ p ∈ kfps ks ++ rest, p.1 ≠ dx ∧ p.1 ≠ tp) (off3 : @Ne Nat dx tp) (hka : ks[av]? = some ka) (hst : ka.st = some ia) (hx : ka.R[ia]? = some y) (htops : TopsAre tops (ks.map KS.key)) (k : ∀ t' t2 tops' ks' h' tk', Fr h₀ L h' m → News h₀ L h' ((dx, MD q ch tp o (greatOf (ks'.map KS.key) (ks'.map KS.key).length) t' 1 t2) :: (tp, listOf tops' nt) :: (kfps ks' ++ rest)) → KidsIn C rest ks' → Moved (fun i k => if i = av then prevAt ia else k.st) ks ks' → TopsAre tops' (ks'.map KS.key) → Q (.none) { s with heap := h', toks := tk' }) :
    wpAny (model Challenge.rw_no0415_01.row.prog w) (ktrTop dp un gd cn cs L a ccd cl outer) (call (.ref 489) [.ref x]) Q E s := by
  have hcl2 : (cv.size : Int) = (ks.length : Int) := by omega
  have hav1 : av < ks.length := (List.getElem?_eq_some_iff.mp hka).1
  have hcv1 : cv[((av : Nat) : Int).toNat]? = some (.ref ka.c) := hcv av ka hka
  generalize hTT : kfps ks ++ rest = TT at N
  have q1 : (x, instObj 506 dx) ∈ TT := hTT ▸ List.mem_append_right _ m1
  have q2 : (ch, listOf cv nc) ∈ TT := hTT ▸ List.mem_append_right _ m2
  have f1 : ∀ p ∈ TT, p.1 ≠ dx := fun p hp => (offx p (hTT ▸ hp)).1
  have f2 : ∀ p ∈ TT, p.1 ≠ tp := fun p hp => (offx p (hTT ▸ hp)).2
  walk_at "mine begin"
  have hmem := List.mem_of_getElem? hka
  have hC : C ka.fp TT ka.c ka.kd ka.R ka.st := S.mono (K.cur _ hmem) fun p hp => hTT ▸ List.mem_append_right _ hp
  have hT : ∀ p ∈ ka.fp, p ∈ TT := fun p hp => hTT ▸ List.mem_append_left _ (mem_kfps hmem p hp)
  walk_at "mine stepsL"
  rename News _ _ _ _ => NN
  obtain ⟨tcc, NN⟩ : ∃ tcc, News _ _ _ ((dx, MD q ch tp o (-1) tcc 1 tg) :: (tp, listOf tops nt) :: TT) := ⟨_, NN⟩
  refine' kid_call (ext := [(dx, MD q ch tp o (-1) tcc 1 tg), (tp, listOf tops nt)]) K hka (fun h1 h2 => S.back (hst ▸ K.cur _ hmem) h1 h2) ?B ?F ?X ?N ?T ?hk ?hd ?hu ?_ ?_ ?_
  walk_at "mine std"
  · intro p hp
    rw [hTT] at hp
    exact hp
  · intro p hp p' hp'
    have z := offx p (List.mem_append_left _ (mem_kfps hmem p hp))
    simp only [List.mem_cons, List.not_mem_nil, or_false] at hp'
    rcases hp' with rfl | rfl
    · exact fun e => z.1 e.symm
    · exact fun e => z.2 e.symm
  clear NN hC hT q1 q2 f1 f2
  subst hTT
  intro fp' h' tk' F' N' ha K2
  simp only [List.cons_append, List.nil_append] at N'
  obtain ⟨k2, hk2⟩ : ∃ k2 : KS, k2 = { ka with fp := fp', st := prevAt ia } := ⟨_, rfl⟩
  have hmem2 : k2 ∈ (ks).set av k2 := List.mem_of_getElem? (List.getElem?_set_self hav1)
  have mv := Moved.one (st' := prevAt ia) hka ha
  rw [← hk2] at N' K2 mv
  have hl2 : ∀ p ∈ kfps ((ks).set av k2) ++ rest, p.1 ≠ dx ∧ p.1 ≠ tp := fun p hp => by
    rcases List.mem_append.mp hp with h | h
    · obtain ⟨p', hp', e⟩ := adr_set (k' := k2) hka (by rw [hk2]; exact ha) p h
      rw [← e]; exact offx p' (List.mem_append_left _ hp')
    · exact offx p (List.mem_append_right _ h)
  generalize eT2 : kfps ((ks).set av k2) ++ rest = T2 at N'
  have sub2 : ∀ p ∈ rest, p ∈ T2 := fun p hp => eT2 ▸ List.mem_append_right _ hp
  have hC2 : C k2.fp T2 k2.c k2.kd k2.R k2.st := S.mono (K2.cur _ hmem2) sub2
  have hT2 : ∀ p ∈ k2.fp, p ∈ T2 := fun p hp => eT2 ▸ List.mem_append_left _ (mem_kfps hmem2 p hp)
  have n1 := sub2 _ m1
  have n2 := sub2 _ m2
  have hcv2 : cv[av]? = some (.ref k2.c) := by rw [hk2]; exact hcv av ka hka
  have g1 : ∀ p ∈ T2, p.1 ≠ dx := fun p hp => (hl2 p (eT2 ▸ hp)).1
  have g2 : ∀ p ∈ T2, p.1 ≠ tp := fun p hp => (hl2 p (eT2 ▸ hp)).2
  walk_at "mine stepsL"
  rename TopV _ _ => VV
  have ht2 := htops.set (av := av) VV
  have ord2 := ord.mono sub2
  have hok2 := keys_ok S K2
  have hlen2 : (((ks).set av k2).map KS.key).length ≤ 1000 := by rw [List.length_map, List.length_set]; exact hn
  walk_at "mine steps"
  subst eT2
  all_goals (exact k _ _ _ _ _ _ (by k_asm) (by k_asm) K2 mv ht2)
set_option maxRecDepth 100000 in
set_option maxHeartbeats 8000000 in
theorem mback1_r {ka : KS} {cv : Array Value} {nc av ia : Nat} {y : Row} (B : Below A₀ base outer h₀) (F : Fr h₀ L s.heap m) (X : (Mine.hd.heap_39 w.params).In h₀) (N : News h₀ L s.heap ((dx, MD q ch tp o ((av : Nat) : Int) tc 0 tg) :: (tp, listOf tops nt) :: (kfps ks ++ rest))) (T : Top VW (looseW VW []) mean mg mb h₀) (hk : cs.kind = .function) (hd : dp + (D + 16) < recursionLimit) (hu : un + 8 * (D + 16) < cLine)
    (S : CurSpec w D C) (K : KidsIn C rest ks) (m1 : (x, instObj 506 dx) ∈ rest) (m2 : (ch, listOf cv nc) ∈ rest) (hcl : cv.size = ks.length) (hcv : ∀ (i : Nat) k, ks[i]? = some k → cv[i]? = some (.ref k.c)) (hts : tops.size = ks.length) (ord : OrdIn rest o) (hn : ks.length ≤ 1000) (offx : ∀ p ∈ kfps ks ++ rest, p.1 ≠ dx ∧ p.1 ≠ tp) (off3 : @Ne Nat dx tp) (hka : ks[av]? = some ka) (hst : ka.st = some ia) (hx : ka.R[ia]? = some y) (htops : TopsAre tops (ks.map KS.key)) (k : ∀ t' t2 tops' ks1 ks' h' tk', Fr h₀ L h' m → News h₀ L h' ((dx, MD q ch tp o (greatOf (ks'.map KS.key) (ks'.map KS.key).length) t' 1 t2) :: (tp, listOf tops' nt) :: (kfps ks' ++ rest)) → KidsIn C rest ks' → Moved (fun i k => if i = av then k.st else backOf k.R (if i < av then afterAt k.R y.1 else seekAt k.R y.1)) ks ks1 → Moved (fun i k => if i = av then prevAt ia else k.st) ks1 ks' → TopsAre tops' (ks'.map KS.key) → Q (.none) { s with heap := h', toks := tk' }) :
    wpAny (model Challenge.rw_no0415_01.row.prog w) (ktrTop dp un gd cn cs L a ccd cl outer) (call (.ref 489) [.ref x]) Q E s := by
  have hcl2 : (cv.size : Int) = (ks.length : Int) := by omega
  have hav1 : av < ks.length := (List.getElem?_eq_some_iff.mp hka).1
  have hcv1 : cv[((av : Nat) : Int).toNat]? = some (.ref ka.c) := hcv av ka hka
  generalize hTT : kfps ks ++ rest = TT at N
  have q1 : (x, instObj 506 dx) ∈ TT := hTT ▸ List.mem_append_right _ m1
  have q2 : (ch, listOf cv nc) ∈ TT := hTT ▸ List.mem_append_right _ m2
  have f1 : ∀ p ∈ TT, p.1 ≠ dx := fun p hp => (offx p (hTT ▸ hp)).1
  have f2 : ∀ p ∈ TT, p.1 ≠ tp := fun p hp => (offx p (hTT ▸ hp)).2
  have hk0 : ka.key = some y.1 := by unfold KS.key; rw [hst]; show (ka.R[ia]?).map (·.1) = _; rw [hx]; rfl
  have hy : y.1.Ok := S.ok (K.cur _ (List.mem_of_getElem? hka)) _ (List.mem_of_getElem? hx)
  obtain ⟨te, htv⟩ : ∃ te, tops[av]? = some (.bytes (ikb y.1) te) := by
    obtain ⟨v, a, b⟩ := htops.2 av ka.key (by rw [List.getElem?_map, hka]; rfl)
    rw [hk0] at b
    obtain ⟨t, rfl⟩ := b
    exact ⟨t, a⟩
  walk_at "mine begin"
  walk_at "mine stepsL"
  subst hTT
  refine' tbwd_r ?B ?F ?X ?N ?T ?hk ?hd ?hu S K m1 m2 hcl hcv hts ord hn offx off3 hka hk0 hy htv ?_
  walk_at "mine std"
  clear q1 q2 f1 f2
  intro t1 t2 tops1 ks1 h' tk' F' N' K1 mv1 htops1
  obtain ⟨fpa, hka1, ha1⟩ := mv1.at_ av ka hka
  rw [if_pos rfl] at hka1
  obtain ⟨ka1, ea⟩ : ∃ ka1 : KS, ka1 = { ka with fp := fpa, st := ka.st } := ⟨_, rfl⟩
  rw [← ea] at hka1
  have hst1 : ka1.st = some ia := by rw [ea]; exact hst
  have hR1 : ka1.R = ka.R := by rw [ea]
  have hcl1 : cv.size = ks1.length := by rw [mv1.len]; exact hcl
  have hts1 : tops1.size = ks1.length := by have := htops1.1; rwa [List.length_map] at this
  have hn1 : ks1.length ≤ 1000 := by rw [mv1.len]; exact hn
  have hcvs1 : ∀ (i : Nat) k, ks1[i]? = some k → cv[i]? = some (.ref k.c) := fun i k hk => by
    have hi : i < ks.length := by rw [← mv1.len]; exact (List.getElem?_eq_some_iff.mp hk).1
    obtain ⟨fp3, b1, b2⟩ := mv1.at_ i _ (List.getElem?_eq_getElem hi)
    rw [hk] at b1
    have e8 : k.c = (ks[i]).c := by rw [Option.some.inj b1]
    rw [e8]
    exact hcv i _ (List.getElem?_eq_getElem hi)
  have offx1 : ∀ p ∈ kfps ks1 ++ rest, p.1 ≠ dx ∧ p.1 ≠ tp := fun p hp => by
    rcases List.mem_append.mp hp with h | h
    · obtain ⟨p', hp', e⟩ := mv1.adr p h
      rw [← e]; exact offx p' (List.mem_append_left _ hp')
    · exact offx p (List.mem_append_right _ h)
  have hcv1 : cv[((av : Nat) : Int).toNat]? = some (.ref ka1.c) := hcvs1 av ka1 hka1
  have hcl2 : (cv.size : Int) = (ks1.length : Int) := by omega
  have hav1 : av < ks1.length := by rw [mv1.len]; exact hav1
  generalize hTT : kfps ks1 ++ rest = TT at N'
  have q1 : (x, instObj 506 dx) ∈ TT := hTT ▸ List.mem_append_right _ m1
  have q2 : (ch, listOf cv nc) ∈ TT := hTT ▸ List.mem_append_right _ m2
  have f1 : ∀ p ∈ TT, p.1 ≠ dx := fun p hp => (offx1 p (hTT ▸ hp)).1
  have f2 : ∀ p ∈ TT, p.1 ≠ tp := fun p hp => (offx1 p (hTT ▸ hp)).2
  have hmem := List.mem_of_getElem? hka1
  have hC : C ka1.fp TT ka1.c ka1.kd ka1.R ka1.st := S.mono (K1.cur _ hmem) fun p hp => hTT ▸ List.mem_append_right _ hp
  have hT : ∀ p ∈ ka1.fp, p ∈ TT := fun p hp => hTT ▸ List.mem_append_left _ (mem_kfps hmem p hp)
  walk_at "mine stepsL"
  rename News _ _ _ _ => NN
  obtain ⟨tcc, NN⟩ : ∃ tcc, News _ _ _ ((dx, MD q ch tp o (-1) tcc 1 t2) :: (tp, listOf tops1 nt) :: TT) := ⟨_, NN⟩
  refine' kid_call (ext := [(dx, MD q ch tp o (-1) tcc 1 t2), (tp, listOf tops1 nt)]) K1 hka1 (fun h1 h2 => S.back (hst1 ▸ K1.cur _ hmem) h1 h2) ?B ?F ?X ?N ?T ?hk ?hd ?hu ?_ ?_ ?_
  walk_at "mine std"
  · intro p hp
    rw [hTT] at hp
    exact hp
  · intro p hp p' hp'
    have z := offx1 p (List.mem_append_left _ (mem_kfps hmem p hp))
    simp only [List.mem_cons, List.not_mem_nil, or_false] at hp'
    rcases hp' with rfl | rfl
    · exact fun e => z.1 e.symm
    · exact fun e => z.2 e.symm
  clear NN hC hT q1 q2 f1 f2
  subst hTT
  intro fp' h' tk' F' N' ha K2
  simp only [List.cons_append, List.nil_append] at N'
  obtain ⟨k2, hk2⟩ : ∃ k2 : KS, k2 = { ka1 with fp := fp', st := prevAt ia } := ⟨_, rfl⟩
  have hmem2 : k2 ∈ (ks1).set av k2 := List.mem_of_getElem? (List.getElem?_set_self hav1)
  have mv := Moved.one (st' := prevAt ia) hka1 ha
  rw [← hk2] at N' K2 mv
  have hl2 : ∀ p ∈ kfps ((ks1).set av k2) ++ rest, p.1 ≠ dx ∧ p.1 ≠ tp := fun p hp => by
    rcases List.mem_append.mp hp with h | h
    · obtain ⟨p', hp', e⟩ := adr_set (k' := k2) hka1 (by rw [hk2]; exact ha) p h
      rw [← e]; exact offx1 p' (List.mem_append_left _ hp')
    · exact offx1 p (List.mem_append_right _ h)
  generalize eT2 : kfps ((ks1).set av k2) ++ rest = T2 at N'
  have sub2 : ∀ p ∈ rest, p ∈ T2 := fun p hp => eT2 ▸ List.mem_append_right _ hp
  have hC2 : C k2.fp T2 k2.c k2.kd k2.R k2.st := S.mono (K2.cur _ hmem2) sub2
  have hT2 : ∀ p ∈ k2.fp, p ∈ T2 := fun p hp => eT2 ▸ List.mem_append_left _ (mem_kfps hmem2 p hp)
  have n1 := sub2 _ m1
  have n2 := sub2 _ m2
  have hcv2 : cv[av]? = some (.ref k2.c) := by rw [hk2]; exact hcvs1 av ka1 hka1
  have g1 : ∀ p ∈ T2, p.1 ≠ dx := fun p hp => (hl2 p (eT2 ▸ hp)).1
  have g2 : ∀ p ∈ T2, p.1 ≠ tp := fun p hp => (hl2 p (eT2 ▸ hp)).2
  walk_at "mine stepsL"
  rename TopV _ _ => VV
  have ht2 := htops1.set (av := av) VV
  have ord2 := ord.mono sub2
  have hok2 := keys_ok S K2
  have hlen2 : (((ks1).set av k2).map KS.key).length ≤ 1000 := by rw [List.length_map, List.length_set]; exact hn1
  walk_at "mine steps"
  subst eT2
  all_goals (exact k _ _ _ _ _ _ _ (by k_asm) (by k_asm) K2 mv1 (by first | exact mv | (rw [← hR1]; exact mv)) ht2)
end
open PySem PySem.W PyProof.Rows
/-! a merge of cursors is a cursor -/
structure MShape (C : CurP) (rest : Led) (x dx ch tp o : Addr) (cv : Array Value) (nc : Nat) (tops : Array Value) (ks : List KS) (Z : MZ) : Prop where
  inst : (x, instObj 506 dx) ∈ rest
  lst : (ch, listOf cv nc) ∈ rest
  ord : OrdIn rest o
  hcl : cv.size = ks.length
  hcv : ∀ (i : Nat) k, ks[i]? = some k → cv[i]? = some (.ref k.c)
  hts : tops.size = ks.length
  hn : ks.length ≤ 1000
  cur : ∀ k ∈ ks, C k.fp rest k.c k.kd k.R k.st
  apart : ks.Pairwise fun a b => Off a.fp b.fp
  offx : ∀ p ∈ kfps ks, p.1 ≠ dx ∧ p.1 ≠ tp
  off3 : @Ne Nat dx tp
  sorted : Z.Pairwise Zord
  src : ∀ z ∈ Z, z.2 < ks.length
  rows : ∀ (i : Nat) k, ks[i]? = some k → k.R = rowsOf Z i
  small : Z.length ≤ 100000
def MPlace (ks : List KS) (Z : MZ) (tops : Array Value) (cur going : Int) (st : Option Nat) : Prop :=
  match st with
  | none => cur = -1
  | some j => ∃ z, Z[j]? = some z ∧ cur = z.2 ∧ TopsAre tops (ks.map KS.key) ∧
      ((going = 0 ∧ ∀ (i : Nat) k, ks[i]? = some k → k.st = placeOf k.R (cnt Z i j)) ∨ (going = 1 ∧ ∀ (i : Nat) k, ks[i]? = some k → k.st = befOf (cnt Z i (j + 1))))
def MergeC (C : CurP) : CurP := fun fp rest x kd R st => kd = true ∧ ∃ (dx ch tp o : Addr) (q : MP) (cv : Array Value) (nc : Nat) (tops : Array Value) (nt : Nat) (ks : List KS) (Z : MZ) (cur : Int) (tc : Tok) (going : Int) (tg : Tok),
  fp = (dx, MD q ch tp o cur tc going tg) :: (tp, listOf tops nt) :: kfps ks ∧ MShape C rest x dx ch tp o cv nc tops ks Z ∧ R = Z.map (·.1) ∧ MPlace ks Z tops cur going st
theorem MShape.mono {w : World} {D : Nat} {C : CurP} (S : CurSpec w D C) {rest rest' : Led} {x dx ch tp o : Addr} {cv : Array Value} {nc : Nat} {tops : Array Value} {ks : List KS} {Z : MZ} (h : MShape C rest x dx ch tp o cv nc tops ks Z) (hs : ∀ p ∈ rest, p ∈ rest') : MShape C rest' x dx ch tp o cv nc tops ks Z :=
  { h with inst := hs _ h.inst, lst := hs _ h.lst, ord := h.ord.mono hs, cur := fun k hk => S.mono (h.cur k hk) hs }
theorem MShape.kids {C : CurP} {rest E0 : Led} {x dx ch tp o : Addr} {cv : Array Value} {nc : Nat} {tops : Array Value} {ks : List KS} {Z : MZ} {a b : Addr × Obj} (h : MShape C rest x dx ch tp o cv nc tops ks Z) (hs : ∀ p ∈ rest, p ∈ E0) (ho : Off (a :: b :: kfps ks) E0) : KidsIn (FixC C rest) E0 ks :=
  ⟨fun k hk => ⟨h.cur k hk, hs⟩, fun k hk p hp q hq => ho p (.tail _ (.tail _ (mem_kfps hk p hp))) q hq, h.apart⟩
theorem MShape.offs {C : CurP} {rest E0 : Led} {x dx ch tp o : Addr} {cv : Array Value} {nc : Nat} {tops : Array Value} {ks : List KS} {Z : MZ} {a b : Obj} (h : MShape C rest x dx ch tp o cv nc tops ks Z) (ho : Off ((dx, a) :: (tp, b) :: kfps ks) E0) : ∀ p ∈ kfps ks ++ E0, p.1 ≠ dx ∧ p.1 ≠ tp := fun p hp => by
  rcases List.mem_append.mp hp with g | g
  · exact h.offx p g
  · exact ⟨ho _ (.head _) p g, ho _ (.tail _ (.head _)) p g⟩
theorem Moved.same {f : Nat → KS → Option Nat} {ks ks' : List KS} (h : Moved f ks ks') {i : Nat} {k' : KS} (hk : ks'[i]? = some k') : ∃ k, ks[i]? = some k ∧ k'.c = k.c ∧ k'.R = k.R ∧ k'.st = f i k ∧ sameAdr k'.fp k.fp := by
  have hl : i < ks.length := by rw [← h.len]; exact (List.getElem?_eq_some_iff.mp hk).1
  obtain ⟨fp', a, b⟩ := h.at_ i _ (List.getElem?_eq_getElem hl)
  rw [hk] at a
  have e := Option.some.inj a
  exact ⟨_, List.getElem?_eq_getElem hl, by rw [e], by rw [e], by rw [e], by rw [e]; exact b⟩
theorem MShape.moved {C : CurP} {rest E0 : Led} {x dx ch tp o : Addr} {cv : Array Value} {nc : Nat} {tops tops' : Array Value} {ks ks' : List KS} {Z : MZ} {f : Nat → KS → Option Nat} (h : MShape C rest x dx ch tp o cv nc tops ks Z) (mv : Moved f ks ks') (K : KidsIn (FixC C rest) E0 ks') (ht : TopsAre tops' (ks'.map KS.key)) :
    MShape C rest x dx ch tp o cv nc tops' ks' Z where
  inst := h.inst
  lst := h.lst
  ord := h.ord
  hcl := h.hcl.trans mv.len.symm
  hcv := fun i k hk => by obtain ⟨k0, a, b, _⟩ := mv.same hk; rw [b]; exact h.hcv i k0 a
  hts := by have := ht.1; rwa [List.length_map] at this
  hn := by rw [mv.len]; exact h.hn
  cur := fun k hk => (K.cur k hk).1
  apart := K.apart
  offx := fun p hp => by obtain ⟨p', hp', e⟩ := mv.adr p hp; rw [← e]; exact h.offx p' hp'
  off3 := h.off3
  sorted := h.sorted
  src := fun z hz => by rw [mv.len]; exact h.src z hz
  rows := fun i k hk => by obtain ⟨k0, a, _, b, _⟩ := mv.same hk; rw [b]; exact h.rows i k0 a
  small := h.small
theorem sameAdr_kfps : ∀ {ks ks' : List KS}, ks'.length = ks.length → (∀ (i : Nat) k k', ks[i]? = some k → ks'[i]? = some k' → sameAdr k'.fp k.fp) → sameAdr (kfps ks') (kfps ks)
  | [], [], _, _ => rfl
  | [], _ :: _, h, _ => by simp at h
  | _ :: _, [], h, _ => by simp at h
  | a :: ks, b :: ks', h, g => by
    have ih := sameAdr_kfps (ks := ks) (ks' := ks') (by simpa using h) fun i k k' h1 h2 => g (i + 1) k k' h1 h2
    have h0 := g 0 a b rfl rfl
    unfold sameAdr kfps at *
    simp only [List.flatMap_cons, List.map_append]
    rw [h0, ih]
theorem Moved.adrs {f : Nat → KS → Option Nat} {ks ks' : List KS} (h : Moved f ks ks') : sameAdr (kfps ks') (kfps ks) :=
  sameAdr_kfps h.len fun i k k' h1 h2 => by
    obtain ⟨k0, a, _, _, _, b⟩ := h.same h2
    rw [h1] at a; cases a; exact b
theorem key_of {ks : List KS} {i : Nat} {k : KS} (h : ks[i]? = some k) : (ks.map KS.key)[i]? = some (k.st.bind fun j => (k.R[j]?).map (·.1)) := by rw [List.getElem?_map, h]; rfl
theorem place_fwd {C : CurP} {rest : Led} {x dx ch tp o : Addr} {cv : Array Value} {nc : Nat} {tops : Array Value} {ks : List KS} {Z : MZ} (h : MShape C rest x dx ch tp o cv nc tops ks Z) (ht : TopsAre tops (ks.map KS.key)) {j : Nat}
    (hp : ∀ (i : Nat) k, ks[i]? = some k → k.st = placeOf k.R (cnt Z i j)) : MPlace ks Z tops (leastTo (ks.map KS.key) (ks.map KS.key).length) 0 (placeOf (Z.map (·.1)) j) := by
  have hl := fwd_least (keys := ks.map KS.key) (n := (ks.map KS.key).length) (j := j) rfl (fun i hi => by
    rw [List.length_map] at hi
    have hk := List.getElem?_eq_getElem hi
    rw [key_of hk, hp i _ hk, h.rows i _ hk, key_fwd]) h.sorted (by rw [List.length_map]; exact h.src)
  rw [hl]
  unfold placeOf
  rw [List.length_map]
  by_cases g : j < Z.length
  · rw [if_pos g]
    have hz := List.getElem?_eq_getElem g
    exact ⟨Z[j], hz, by rw [hz], ht, .inl ⟨rfl, hp⟩⟩
  · rw [if_neg g, List.getElem?_eq_none (by omega)]
    rfl
theorem place_bwd {C : CurP} {rest : Led} {x dx ch tp o : Addr} {cv : Array Value} {nc : Nat} {tops : Array Value} {ks : List KS} {Z : MZ} (h : MShape C rest x dx ch tp o cv nc tops ks Z) (ht : TopsAre tops (ks.map KS.key)) {j : Nat} (hj : j ≤ Z.length)
    (hp : ∀ (i : Nat) k, ks[i]? = some k → k.st = befOf (cnt Z i j)) : MPlace ks Z tops (greatOf (ks.map KS.key) (ks.map KS.key).length) 1 (befOf j) := by
  have hl := bwd_great (keys := ks.map KS.key) (n := (ks.map KS.key).length) (j := j) rfl (fun i hi => by
    rw [List.length_map] at hi
    have hk := List.getElem?_eq_getElem hi
    rw [key_of hk, hp i _ hk, h.rows i _ hk, key_bwd]) h.sorted (by rw [List.length_map]; exact h.src) hj
  rw [hl]
  unfold befOf
  by_cases g : j = 0
  · rw [if_pos g]; rfl
  · rw [if_neg g]
    have hz := List.getElem?_eq_getElem (l := Z) (i := j - 1) (by omega)
    refine ⟨Z[j - 1], hz, by rw [Option.bind_some, hz], ht, .inr ⟨rfl, ?_⟩⟩
    rw [Nat.sub_add_cancel (by omega)]; exact hp
theorem firstAt_eq (R : List Row) : firstAt R = placeOf R 0 := by
  unfold firstAt placeOf; cases R <;> simp
theorem lastAt_eq (R : List Row) : lastAt R = befOf R.length := by
  unfold lastAt befOf; cases R <;> simp
theorem prevAt_eq (i : Nat) : prevAt i = befOf i := rfl
theorem backOf_eq (R : List Row) {n : Nat} (h : n ≤ R.length) : backOf R (placeOf R n) = befOf n := by
  unfold placeOf
  by_cases g : n < R.length
  · rw [if_pos g]; rfl
  · rw [if_neg g]
    have : n = R.length := by omega
    rw [this]; exact lastAt_eq R
section
set_option maxRecDepth 100000
set_option maxHeartbeats 8000000
variable {w : World} {D : Nat} {C : CurP}
/-- what a moved merge is -/
theorem merge_made {rest E0 : Led} {x dx ch tp o : Addr} {cv : Array Value} {nc nt : Nat} {tops tops' : Array Value} {ks ks' : List KS} {Z : MZ} {f : Nat → KS → Option Nat} {q : MP} {cur going cur' going' : Int} {tc tg tc' tg' : Tok} {st' : Option Nat}
    (h : MShape C rest x dx ch tp o cv nc tops ks Z) (mv : Moved f ks ks') (K : KidsIn (FixC C rest) E0 ks') (ht : TopsAre tops' (ks'.map KS.key)) (hp : MShape C rest x dx ch tp o cv nc tops' ks' Z → MPlace ks' Z tops' cur' going' st') :
    sameAdr ((dx, MD q ch tp o cur' tc' going' tg') :: (tp, listOf tops' nt) :: kfps ks') ((dx, MD q ch tp o cur tc going tg) :: (tp, listOf tops nt) :: kfps ks) ∧
    MergeC C ((dx, MD q ch tp o cur' tc' going' tg') :: (tp, listOf tops' nt) :: kfps ks') rest x true (Z.map (·.1)) st' := by
  have h' := h.moved mv K ht
  refine ⟨?_, rfl, dx, ch, tp, o, q, cv, nc, tops', nt, ks', Z, cur', tc', going', tg', rfl, h', rfl, hp h'⟩
  have := mv.adrs
  unfold sameAdr at *
  simp only [List.map_cons, this]
theorem at_kid {rest : Led} {x dx ch tp o : Addr} {cv : Array Value} {nc : Nat} {tops : Array Value} {ks : List KS} {Z : MZ} (h : MShape C rest x dx ch tp o cv nc tops ks Z) {j : Nat} {z : Row × Nat} (hz : Z[j]? = some z) :
    ∃ ka, ks[z.2]? = some ka ∧ ka.R = rowsOf Z z.2 ∧ ka.R[cnt Z z.2 j]? = some z.1 := by
  have hl := h.src z (List.mem_of_getElem? hz)
  have hk := List.getElem?_eq_getElem hl
  exact ⟨_, hk, h.rows _ _ hk, by rw [h.rows _ _ hk]; exact row_at_cnt hz⟩
theorem merge_spec (S : CurSpec w D C) : CurSpec w (D + 16) (MergeC C) where
  mono := by
    rintro fp rest rest' x kd R st ⟨h1, dx, ch, tp, o, q, cv, nc, tops, nt, ks, Z, cur, tc, going, tg, h2, h3, h4, h5⟩ hs
    exact ⟨h1, dx, ch, tp, o, q, cv, nc, tops, nt, ks, Z, cur, tc, going, tg, h2, h3.mono S hs, h4, h5⟩
  obj := by
    rintro fp rest x kd R st ⟨rfl, dx, ch, tp, o, q, cv, nc, tops, nt, ks, Z, cur, tc, going, tg, rfl, h3, h4, h5⟩
    exact ⟨dx, _, _, h3.inst, .head _, fun mn => by cases mn <;> rfl⟩
  ok := by
    rintro fp rest x kd R st ⟨rfl, dx, ch, tp, o, q, cv, nc, tops, nt, ks, Z, cur, tc, going, tg, rfl, h3, rfl, h5⟩ y hy
    obtain ⟨z, hz, rfl⟩ := List.mem_map.mp hy
    have hk := List.getElem?_eq_getElem (h3.src z hz)
    have := S.ok (h3.cur _ (List.mem_of_getElem? hk)) z.1
    rw [h3.rows _ _ hk] at this
    exact this (mem_rowsOf.mpr hz)
  size := by
    rintro fp rest x kd R st ⟨rfl, dx, ch, tp, o, q, cv, nc, tops, nt, ks, Z, cur, tc, going, tg, rfl, h3, rfl, h5⟩
    rw [List.length_map]
    refine ⟨h3.small, fun i hi => ?_⟩
    subst hi
    obtain ⟨z, hz, _⟩ := h5
    exact (List.getElem?_eq_some_iff.mp hz).1
  valid := by
    rintro fp rest E0 x kd R st ⟨rfl, dx, ch, tp, o, q, cv, nc, tops, nt, ks, Z, cur, tc, going, tg, rfl, h3, rfl, h5⟩ hs
    intro dp un gd cn cs a ccd cl outer A₀ base h₀ L m mg mb mean s Q E B F X N T hk hd hu k
    refine mvalid_r (rest := kfps ks ++ E0) B F X N T hk (by omega) (by omega) (List.mem_append_right _ (hs _ h3.inst)) fun h' tk' F' N' => k _ _ _ _ F' N' ⟨?_, rfl⟩
    cases st with
    | none => have : cur = -1 := h5; rw [this]; rfl
    | some j => obtain ⟨z, _, e, _⟩ := h5; rw [e]; simp
  key := by
    rintro fp rest E0 x kd R j y ⟨rfl, dx, ch, tp, o, q, cv, nc, tops, nt, ks, Z, cur, tc, going, tg, rfl, h3, rfl, z, hz, rfl, ht, hg⟩ hy hs
    intro dp un gd cn cs a ccd cl outer A₀ base h₀ L m mg mb mean s Q E B F X N T hk hd hu k
    obtain ⟨ka, hka, hR, hat⟩ := at_kid h3 hz
    have hl := (List.getElem?_eq_some_iff.mp hka).1
    have hst : ka.st = some (cnt Z z.2 j) := by
      rcases hg with ⟨_, g⟩ | ⟨_, g⟩
      · rw [g _ _ hka, placeOf_lt (List.getElem?_eq_some_iff.mp hat).1]
      · rw [g _ _ hka, cnt_succ_same hz]; rfl
    have hy2 : y = z.1 := by rw [List.getElem?_map, hz] at hy; exact (Option.some.inj hy).symm
    obtain ⟨v, hv, hv2⟩ := ht.2 z.2 ka.key (by rw [List.getElem?_map, hka]; rfl)
    have hkey : ka.key = some z.1.1 := by unfold KS.key; rw [hst]; show (ka.R[_]?).map _ = _; rw [hat]; rfl
    rw [hkey] at hv2
    obtain ⟨t, rfl⟩ := hv2
    refine mkey_r (rest := kfps ks ++ E0) B F X N T hk (by omega) (by omega) (List.mem_append_right _ (hs _ h3.inst)) (by omega) (by have := h3.hn; omega) hv fun h' tk' F' N' => k _ _ _ _ F' N' ⟨⟨t, by rw [hy2]⟩, rfl⟩
  value := by
    rintro fp rest E0 x kd R j y ⟨rfl, dx, ch, tp, o, q, cv, nc, tops, nt, ks, Z, cur, tc, going, tg, rfl, h3, rfl, z, hz, rfl, ht, hg⟩ hy hs
    intro dp un gd cn cs a ccd cl outer A₀ base h₀ L m mg mb mean s Q E B F X N T hk hd hu k
    obtain ⟨ka, hka, hR, hat⟩ := at_kid h3 hz
    have hl := (List.getElem?_eq_some_iff.mp hka).1
    have hst : ka.st = some (cnt Z z.2 j) := by
      rcases hg with ⟨_, g⟩ | ⟨_, g⟩
      · rw [g _ _ hka, placeOf_lt (List.getElem?_eq_some_iff.mp hat).1]
      · rw [g _ _ hka, cnt_succ_same hz]; rfl
    have hy2 : y = z.1 := by rw [List.getElem?_map, hz] at hy; exact (Option.some.inj hy).symm
    have hmem := List.mem_of_getElem? hka
    have hC := h3.cur ka hmem
    rw [hst] at hC
    refine mvalue_r (rest := kfps ks ++ E0) B F X N T hk (by omega) (by omega) S (S.mono hC fun p hp => List.mem_append_right _ (hs p hp)) (fun p hp => List.mem_append_left _ (mem_kfps hmem p hp)) hat (List.mem_append_right _ (hs _ h3.inst)) (List.mem_append_right _ (hs _ h3.lst)) (by omega) (by have := h3.hn; omega) (h3.hcv _ _ hka) fun t' h' tk' F' N' => k _ _ _ _ F' N' ⟨⟨t', by rw [hy2]⟩, rfl⟩
  first := by
    rintro fp rest E0 x kd R st ⟨rfl, dx, ch, tp, o, q, cv, nc, tops, nt, ks, Z, cur, tc, going, tg, rfl, h3, rfl, h5⟩ hs hoff
    intro dp un gd cn cs a ccd cl outer A₀ base h₀ L m mg mb mean s Q E B F X N T hk hd hu k
    refine mfirst_r (rest := E0) B F X N T hk (by omega) (by omega) (S.fix rest) (h3.kids hs hoff) (hs _ h3.inst) (hs _ h3.lst) h3.hcl h3.hcv h3.hts (h3.ord.mono hs) h3.hn (h3.offs hoff) h3.off3 fun t' t2 tops' ks' h' tk' F' N' K' mv ht => ?_
    refine k _ ((dx, MD q ch tp o _ t' 0 t2) :: (tp, listOf tops' nt) :: kfps ks') _ _ F' N' ⟨rfl, ?_⟩
    rw [firstAt_eq]
    refine merge_made h3 mv K' ht fun h' => place_fwd h' ht fun i k' hk' => ?_
    obtain ⟨k0, a, _, b, c, _⟩ := mv.same hk'
    rw [c, b, cnt_zero, firstAt_eq]
  last := by
    rintro fp rest E0 x kd R st ⟨rfl, dx, ch, tp, o, q, cv, nc, tops, nt, ks, Z, cur, tc, going, tg, rfl, h3, rfl, h5⟩ hs hoff
    intro dp un gd cn cs a ccd cl outer A₀ base h₀ L m mg mb mean s Q E B F X N T hk hd hu k
    refine mlast_r (rest := E0) B F X N T hk (by omega) (by omega) (S.fix rest) (h3.kids hs hoff) (hs _ h3.inst) (hs _ h3.lst) h3.hcl h3.hcv h3.hts (h3.ord.mono hs) h3.hn (h3.offs hoff) h3.off3 fun t' t2 tops' ks' h' tk' F' N' K' mv ht => ?_
    refine k _ ((dx, MD q ch tp o _ t' 1 t2) :: (tp, listOf tops' nt) :: kfps ks') _ _ F' N' ⟨rfl, ?_⟩
    have e9 : (Z.map (·.1)).length = Z.length := List.length_map _
    rw [lastAt_eq, e9]
    refine merge_made h3 mv K' ht fun h' => place_bwd h' ht (Nat.le_refl _) fun i k' hk' => ?_
    obtain ⟨k0, a, _, b, c, _⟩ := mv.same hk'
    rw [c, cnt_all _ _ _ (Nat.le_refl _), lastAt_eq, h3.rows _ _ a]
  seek := by
    rintro fp rest E0 x kd R st e te ⟨rfl, dx, ch, tp, o, q, cv, nc, tops, nt, ks, Z, cur, tc, going, tg, rfl, h3, rfl, h5⟩ hs hoff he
    intro dp un gd cn cs a ccd cl outer A₀ base h₀ L m mg mb mean s Q E B F X N T hk hd hu k
    refine mseek_r (rest := E0) B F X N T hk (by omega) (by omega) (S.fix rest) (h3.kids hs hoff) (hs _ h3.inst) (hs _ h3.lst) h3.hcl h3.hcv h3.hts (h3.ord.mono hs) h3.hn (h3.offs hoff) h3.off3 he fun t' t2 tops' ks' h' tk' F' N' K' mv ht => ?_
    refine k _ ((dx, MD q ch tp o _ t' 0 t2) :: (tp, listOf tops' nt) :: kfps ks') _ _ F' N' ⟨rfl, ?_⟩
    rw [seekAt_eq]
    refine merge_made h3 mv K' ht fun h' => place_fwd h' ht fun i k' hk' => ?_
    obtain ⟨k0, a, _, b, c, _⟩ := mv.same hk'
    rw [c, b, seekAt_eq, h3.rows _ _ a, seek_kid h3.sorted]
  step := by
    rintro fp rest E0 x kd R j ⟨rfl, dx, ch, tp, o, q, cv, nc, tops, nt, ks, Z, cur, tc, going, tg, rfl, h3, rfl, z, hz, rfl, ht0, hg⟩ hs hoff
    intro dp un gd cn cs a ccd cl outer A₀ base h₀ L m mg mb mean s Q E B F X N T hk hd hu k
    obtain ⟨ka, hka, hR, hat⟩ := at_kid h3 hz
    rcases hg with ⟨rfl, g⟩ | ⟨rfl, g⟩
    · have hst : ka.st = some (cnt Z z.2 j) := by rw [g _ _ hka, placeOf_lt (List.getElem?_eq_some_iff.mp hat).1]
      refine mstep0_r (rest := E0) B F X N T hk (by omega) (by omega) (S.fix rest) (h3.kids hs hoff) (hs _ h3.inst) (hs _ h3.lst) h3.hcl h3.hcv h3.hts (h3.ord.mono hs) h3.hn (h3.offs hoff) h3.off3 hka hst hat ht0 fun t' t2 tops' ks' h' tk' F' N' K' mv ht => ?_
      refine k _ ((dx, MD q ch tp o _ t' 0 t2) :: (tp, listOf tops' nt) :: kfps ks') _ _ F' N' ⟨rfl, ?_⟩
      rw [nextAt_eq]
      refine merge_made h3 mv K' ht fun h' => place_fwd h' ht fun i k' hk' => ?_
      obtain ⟨k0, a, _, b, c, _⟩ := mv.same hk'
      rw [c, b]
      by_cases e : i = z.2
      · subst e
        rw [hka] at a; cases a
        rw [if_pos rfl, nextAt_eq, cnt_succ_same hz]
      · rw [if_neg e, g _ _ a, cnt_succ_other hz e]
    · have hst : ka.st = some (cnt Z z.2 j) := by rw [g _ _ hka, cnt_succ_same hz]; rfl
      refine mstep1_r (rest := E0) B F X N T hk (by omega) (by omega) (S.fix rest) (h3.kids hs hoff) (hs _ h3.inst) (hs _ h3.lst) h3.hcl h3.hcv h3.hts (h3.ord.mono hs) h3.hn (h3.offs hoff) h3.off3 hka hst hat ht0 fun t' t2 tops' ks1 ks' h' tk' F' N' K' mv1 mv ht => ?_
      refine k _ ((dx, MD q ch tp o _ t' 0 t2) :: (tp, listOf tops' nt) :: kfps ks') _ _ F' N' ⟨rfl, ?_⟩
      rw [nextAt_eq]
      have mv2 : Moved (fun i k => if i = z.2 then nextAt ka.R (cnt Z z.2 j) else placeOf k.R (cnt Z i j)) ks ks' := by
        refine ⟨mv.len.trans mv1.len, fun i k0 hk0 => ?_⟩
        obtain ⟨fp1, a1, b1⟩ := mv1.at_ i k0 hk0
        obtain ⟨fp2, a2, b2⟩ := mv.at_ i _ a1
        refine ⟨fp2, ?_, b2.trans b1⟩
        rw [a2]
        simp only
        by_cases e : i = z.2
        · rw [if_pos e, if_pos e]
        · rw [if_neg e, if_neg e, if_neg e]
          have hr := h3.rows _ _ hk0
          congr 2
          by_cases e2 : i < z.2
          · rw [if_pos e2]; unfold afterAt; rw [hr, turn_earlier h3.sorted hz e2]
          · rw [if_neg e2, seekAt_eq, hr, turn_later h3.sorted hz (by omega)]
      refine merge_made h3 mv2 K' ht fun h' => place_fwd h' ht fun i k' hk' => ?_
      obtain ⟨k0, a, _, b, c, _⟩ := mv2.same hk'
      rw [c, b]
      by_cases e : i = z.2
      · subst e
        rw [hka] at a; cases a
        rw [if_pos rfl, nextAt_eq, cnt_succ_same hz]
      · rw [if_neg e, cnt_succ_other hz e]
  back := by
    rintro fp rest E0 x kd R j ⟨rfl, dx, ch, tp, o, q, cv, nc, tops, nt, ks, Z, cur, tc, going, tg, rfl, h3, rfl, z, hz, rfl, ht0, hg⟩ hs hoff
    intro dp un gd cn cs a ccd cl outer A₀ base h₀ L m mg mb mean s Q E B F X N T hk hd hu k
    obtain ⟨ka, hka, hR, hat⟩ := at_kid h3 hz
    have hjl := (List.getElem?_eq_some_iff.mp hz).1
    rcases hg with ⟨rfl, g⟩ | ⟨rfl, g⟩
    · have hst : ka.st = some (cnt Z z.2 j) := by rw [g _ _ hka, placeOf_lt (List.getElem?_eq_some_iff.mp hat).1]
      refine mback1_r (rest := E0) B F X N T hk (by omega) (by omega) (S.fix rest) (h3.kids hs hoff) (hs _ h3.inst) (hs _ h3.lst) h3.hcl h3.hcv h3.hts (h3.ord.mono hs) h3.hn (h3.offs hoff) h3.off3 hka hst hat ht0 fun t' t2 tops' ks1 ks' h' tk' F' N' K' mv1 mv ht => ?_
      refine k _ ((dx, MD q ch tp o _ t' 1 t2) :: (tp, listOf tops' nt) :: kfps ks') _ _ F' N' ⟨rfl, ?_⟩
      rw [prevAt_eq]
      have mv2 : Moved (fun i k => befOf (cnt Z i j)) ks ks' := by
        refine ⟨mv.len.trans mv1.len, fun i k0 hk0 => ?_⟩
        obtain ⟨fp1, a1, b1⟩ := mv1.at_ i k0 hk0
        obtain ⟨fp2, a2, b2⟩ := mv.at_ i _ a1
        refine ⟨fp2, ?_, b2.trans b1⟩
        rw [a2]
        simp only
        by_cases e : i = z.2
        · rw [if_pos e, e, prevAt_eq]
        · rw [if_neg e, if_neg e]
          have hr := h3.rows _ _ hk0
          have hc := cnt_le Z i j
          rw [← hr] at hc
          congr 2
          rw [← backOf_eq k0.R hc]
          congr 1
          by_cases e2 : i < z.2
          · rw [if_pos e2]; unfold afterAt; rw [hr, turn_earlier h3.sorted hz e2]
          · rw [if_neg e2, seekAt_eq, hr, turn_later h3.sorted hz (by omega)]
      refine merge_made h3 mv2 K' ht fun h' => place_bwd h' ht (by omega) fun i k' hk' => ?_
      obtain ⟨k0, a, _, b, c, _⟩ := mv2.same hk'
      exact c
    · have hst : ka.st = some (cnt Z z.2 j) := by rw [g _ _ hka, cnt_succ_same hz]; rfl
      refine mback0_r (rest := E0) B F X N T hk (by omega) (by omega) (S.fix rest) (h3.kids hs hoff) (hs _ h3.inst) (hs _ h3.lst) h3.hcl h3.hcv h3.hts (h3.ord.mono hs) h3.hn (h3.offs hoff) h3.off3 hka hst hat ht0 fun t' t2 tops' ks' h' tk' F' N' K' mv ht => ?_
      refine k _ ((dx, MD q ch tp o _ t' 1 t2) :: (tp, listOf tops' nt) :: kfps ks') _ _ F' N' ⟨rfl, ?_⟩
      rw [prevAt_eq]
      refine merge_made h3 mv K' ht fun h' => place_bwd h' ht (by omega) fun i k' hk' => ?_
      obtain ⟨k0, a, _, b, c, _⟩ := mv.same hk'
      rw [c]
      by_cases e : i = z.2
      · subst e
        rw [if_pos rfl, prevAt_eq]
      · rw [if_neg e, g _ _ a, cnt_succ_other hz e]
end
end Mine
namespace Mine
open PySem PySem.W PyProof.Rows
set_option hygiene false in
local macro_rules | `(tactic| walk_at "compareOp Lt bytes bytes") => `(tactic| with_reducible refine Mine.lt_bytes ?_)
set_option hygiene false in
local macro_rules | `(tactic| walk_at "compareOp Gt bytes bytes") => `(tactic| with_reducible refine Mine.gt_bytes ?_)
set_option hygiene false in
local macro_rules | `(tactic| walk_at "compareOp GtE bytes bytes") => `(tactic| with_reducible refine Mine.ge_bytes ?_)
set_option hygiene false in
local macro_rules | `(tactic| walk_at "call type:bytes") => `(tactic| ((with_reducible show wpAny _ _ (call (Value.type "bytes") [Value.bytes _ _]) _ _ _); refine Mine.call_bytes_bytes ?_))
set_option hygiene false in
local macro_rules | `(tactic| walk_at "binaryOp LShift int int") => `(tactic| ((first | (with_reducible refine Mine.shl8 ?h0 ?h1 ?_) | (with_reducible refine Mine.shl16 ?h0 ?h1 ?_) | (with_reducible refine Mine.shl24 ?h0 ?h1 ?_) | (with_reducible refine Mine.shl32 ?h0 ?h1 ?_)); (case h0 => omega); (case h1 => omega)))
set_option hygiene false in
local macro_rules | `(tactic| walk_at "binaryOp BitOr int int") => `(tactic| ((first | (with_reducible refine Mine.or8 ?h0 ?h1 ?h2 ?_) | (with_reducible refine Mine.or16 ?h0 ?h1 ?h2 ?_) | (with_reducible refine Mine.or24 ?h0 ?h1 ?h2 ?_) | (with_reducible refine Mine.or32 ?h0 ?h1 ?h2 ?_)); (case h0 => omega); (case h1 => omega); (case h2 => omega)))
set_option hygiene false in
local macro_rules | `(tactic| walk_at "binaryOp LShift int int") => `(tactic| ((with_reducible refine Mine.shl8b ?h0 ?h1 ?_); (case h0 => omega); (case h1 => omega)))
set_option hygiene false in
local macro_rules | `(tactic| walk_at "binaryOp RShift int int") => `(tactic| (first | (with_reducible refine Mine.shr8 ?_) | (with_reducible refine Mine.shr16 ?_) | (with_reducible refine Mine.shr24 ?_) | (with_reducible refine Mine.shr32 ?_)))
set_option hygiene false in
local macro_rules | `(tactic| walk_at "binaryOp BitAnd int int") => `(tactic| ((first | (with_reducible refine Mine.and255 ?h0 ?_) | (with_reducible refine Mine.andM32 ?h0 ?_)); (case h0 => omega)))
set_option hygiene false in
local macro_rules | `(tactic| walk_at "binaryOp BitOr int int") => `(tactic| ((with_reducible refine Mine.or8r ?h0 ?h1 ?h2 ?_); (case h0 => omega); (case h1 => omega); (case h2 => omega)))
set_option hygiene false in
local macro_rules | `(tactic| walk_at "call type:bytes") => `(tactic| ((with_reducible show wpAny _ _ (call (Value.type "bytes") [Value.ref _]) _ _ _); k_dflt (refine' KBa.make_K ?kbaF ?kbaN ?kbah ?kbal ?kbai ?kbar ?kban ?_; (case kbaF => k_asm); (case kbaN => k_asm); (case kbah => rfl); (case kbal => kba_isList); (case kbai => kba_listInts); (case kbar => assumption); (case kban => kba_size)); intro _ _ _ F' N' kbaIn))
set_option hygiene false in
local macro_rules | `(tactic| walk_at "binaryOp Add bytes bytes") => `(tactic| ((with_reducible refine Mine.add_bb ?hz ?_); (case hz => (first | omega | (simp only [Array.size_append, PySem.byteArr_size, Mine.l32, List.length_cons, List.length_nil]; omega))); intro _ _))
set_option hygiene false in
local macro_rules | `(tactic| k_room) => `(tactic| ktr_room)
set_option hygiene false in
local macro_rules | `(tactic| k_units) => `(tactic| ktr_units)
set_option hygiene false in
local macro_rules | `(tactic| k_all) => `(tactic| assumption)
set_option hygiene false in
local macro_rules | `(tactic| k_mem) => `(tactic| assumption)
set_option hygiene false in
local macro_rules | `(tactic| walk_at "mine begin") => `(tactic| ((rename Frag.In _ _ => X1); revert X1; k_fill; intro X1; refine wpAny_call ?_; k_dflt ktr_enter))
set_option hygiene false in
local macro_rules | `(tactic| walk_at "mine std") => `(tactic| ((case B => k_asm); (case F => k_asm); (case X => k_asm); (case N => k_asm); (case T => k_asm); (case hk => first | exact rfl | assumption); (case hd => ktr_room); (case hu => ktr_units)))
set_option hygiene false in
local macro_rules | `(tactic| walk_at "mine news") => `(tactic| (first | k_asm | (refine' news_of ?nn ?ns; (case nn => assumption); (case ns => (intro pp hpp; repeat (first | exact hpp | refine List.mem_cons_of_mem _ ?_))))))
set_option hygiene false in
local macro_rules | `(tactic| walk_at "mine sub") => `(tactic| (intro pp hpp; repeat (first | exact hpp | refine List.mem_cons_of_mem _ ?_)))
set_option hygiene false in
local macro_rules | `(tactic| walk_at "mine steps") => `(tactic| repeat' (first
  | ((fail_if_success (with_reducible show wpAny _ _ (exec (PySem.Stmt.While _ _ _ _) _) _ _ _)); (fail_if_success (with_reducible show wpAny _ _ (pyIter _) _ _ _)); (fail_if_success (with_reducible show wpAny _ _ (call (Value.ref (Mine.adr _ MN.first)) _) _ _ _)); (fail_if_success (with_reducible show wpAny _ _ (call (Value.ref (Mine.adr _ MN.last)) _) _ _ _)); (fail_if_success (with_reducible show wpAny _ _ (call (Value.ref (Mine.adr _ MN.seek)) _) _ _ _)); (fail_if_success (with_reducible show wpAny _ _ (call (Value.ref (Mine.adr _ MN.step)) _) _ _ _)); (fail_if_success (with_reducible show wpAny _ _ (call (Value.ref (Mine.adr _ MN.back)) _) _ _ _));
     (fail_if_success (with_reducible show wpAny _ _ (call (Value.ref 461) _) _ _ _)); (fail_if_success (with_reducible show wpAny _ _ (call (Value.ref 468) _) _ _ _)); (fail_if_success (with_reducible show wpAny _ _ (call (Value.ref 475) _) _ _ _));
     (first | (k_unfold; (try dsimp only)) | walk1 | (dsimp only; walk1) | (leave1; walk_say "STEP leave1"; (try dsimp only)) | fail "no step"))))
set_option hygiene false in
local macro_rules | `(tactic| walk_at "mine stepsL") => `(tactic| repeat' (first
  | ((fail_if_success (with_reducible show wpAny _ _ (exec (PySem.Stmt.While _ _ _ _) _) _ _ _)); (fail_if_success (with_reducible show wpAny _ _ (pyIter _) _ _ _)); (fail_if_success (with_reducible show wpAny _ _ (call (Value.ref (Mine.adr _ MN.first)) _) _ _ _)); (fail_if_success (with_reducible show wpAny _ _ (call (Value.ref (Mine.adr _ MN.last)) _) _ _ _)); (fail_if_success (with_reducible show wpAny _ _ (call (Value.ref (Mine.adr _ MN.seek)) _) _ _ _)); (fail_if_success (with_reducible show wpAny _ _ (call (Value.ref (Mine.adr _ MN.step)) _) _ _ _)); (fail_if_success (with_reducible show wpAny _ _ (call (Value.ref (Mine.adr _ MN.back)) _) _ _ _));
     (fail_if_success (with_reducible show wpAny _ _ (call (Value.ref 412) _) _ _ _)); (fail_if_success (with_reducible show wpAny _ _ (call (Value.ref 419) _) _ _ _)); (fail_if_success (with_reducible show wpAny _ _ (call (Value.ref 461) _) _ _ _)); (fail_if_success (with_reducible show wpAny _ _ (call (Value.ref 468) _) _ _ _)); (fail_if_success (with_reducible show wpAny _ _ (call (Value.ref 475) _) _ _ _));
     (first | (k_unfold; (try dsimp only)) | walk1 | (dsimp only; walk1) | (leave1; walk_say "STEP leave1"; (try dsimp only)) | fail "no step"))))
set_option hygiene false in
local macro_rules | `(tactic| walk_at "subscriptTail") => `(tactic| ((with_reducible show wpAny _ _ (subscriptTail _ _ (Value.ref _) (Value.int _ _)) _ _ _); k_dflt (refine' Mine.item_list ?N ?m ?a ?b ?x ?_; (case N => k_asm); (case m => k_mem); (case a => omega); (case b => omega); (case x => assumption); k_whole)))
set_option hygiene false in
local macro_rules | `(tactic| walk_at "subscriptTail") => `(tactic| ((with_reducible show wpAny _ _ (subscriptTail _ _ (Value.ref _) (Value.int _ _)) _ _ _); k_dflt (refine' Mine.item_tup ?N ?m ?a ?b ?x ?_; (case N => k_asm); (case m => k_mem); (case a => omega); (case b => omega); (case x => first | exact rfl | assumption); k_whole)))
set_option hygiene false in
local macro_rules | `(tactic| walk_at "eval Name") => `(tactic| (k_dflt (refine' nameX_L ?F ?v ?_ ?a ?b; (case b => rfl); (case F => k_asm); (case a => rfl); (case v => first | exact rfl | assumption); k_whole)))
set_option hygiene false in
local macro_rules | `(tactic| walk_at "call ref") => `(tactic| ((with_reducible show wpAny _ _ (call (Value.ref 115) _) _ _ _); k_dflt (refine' Mine.rd32_r ?B ?F ?X ?N ?T ?hk ?hd ?hu ?s1 ?s2 ?s3 ?s4 ?_; walk_at "mine std"; (case s1 => assumption); (case s2 => omega); (case s3 => omega); (case s4 => omega); k_whole; intro t' h' tk' F' N' b1' b2'; (try k_sweep))))
set_option hygiene false in
local macro_rules | `(tactic| walk_at "call ref") => `(tactic| ((with_reducible show wpAny _ _ (call (Value.ref 122) _) _ _ _); k_dflt (refine' Mine.rd64_r ?B ?F ?X ?N ?T ?hk ?hd ?hu ?s1 ?s2 ?s3 ?s4 ?_; walk_at "mine std"; (case s1 => assumption); (case s2 => omega); (case s3 => omega); (case s4 => omega); k_whole; intro t' h' tk' F' N'; (try k_sweep))))
set_option hygiene false in
local macro_rules | `(tactic| walk_at "call ref") => `(tactic| ((with_reducible show wpAny _ _ (call (Value.ref 150) _) _ _ _); k_dflt (refine' Mine.user_of_r ?B ?F ?X ?N ?T ?hk ?hd ?hu ?s1 ?_; walk_at "mine std"; (case s1 => assumption); k_whole; intro t' h' tk' F' N'; (try k_sweep))))
set_option hygiene false in
local macro_rules | `(tactic| walk_at "call ref") => `(tactic| ((with_reducible show wpAny _ _ (call (Value.ref 157) _) _ _ _); k_dflt (refine' Mine.tag_of_r ?B ?F ?X ?N ?T ?hk ?hd ?hu ?s1 ?_; walk_at "mine std"; (case s1 => assumption); k_whole; intro t' h' tk' F' N'; (try k_sweep))))
set_option hygiene false in
local macro_rules | `(tactic| walk_at "call ref") => `(tactic| ((with_reducible show wpAny _ _ (call (Value.ref 171) _) _ _ _); k_dflt (refine' Mine.ocmp_r ?B ?F ?X ?N ?T ?hk ?hd ?hu  ?_; walk_at "mine std"; k_whole; intro t' h' tk' F' N'; (try k_sweep))))
set_option hygiene false in
local macro_rules | `(tactic| walk_at "call ref") => `(tactic| ((with_reducible show wpAny _ _ (call (Value.ref 253) _) _ _ _); k_dflt (refine' Mine.icmp_r ?B ?F ?X ?N ?T ?hk ?hd ?hu ?s1 ?s2 ?s3 ?_; walk_at "mine std"; (case s1 => assumption); (case s2 => assumption); (case s3 => first | assumption | (refine' OrdIn.mono ?oo ?os; (case oo => assumption); (case os => walk_at "mine sub"))); k_whole; intro t' h' tk' F' N'; (try k_sweep))))
set_option hygiene false in
local macro_rules | `(tactic| walk_at "call ref") => `(tactic| ((with_reducible show wpAny _ _ (call (Value.ref 405) _) _ _ _); k_dflt (refine' Mine.look_r ?B ?F ?X ?N ?T ?hk ?hd ?hu ?s1 ?s2 ?s3 ?s4 ?s5 ?s6 ?s7 ?s8 ?s9 ?s10 ?s11 ?_; (case s1 => assumption); walk_at "mine std"; (case s2 => exact hC2); (case s3 => exact hT2); (case s4 => exact n1); (case s5 => exact n2); (case s6 => exact hcv2); (case s7 => omega); (case s8 => omega); (case s9 => exact g1); (case s10 => exact g2); (case s11 => assumption); k_whole; intro v' h' tk' F' N' V'; (try k_sweep))))
set_option hygiene false in
local macro_rules | `(tactic| walk_at "call ref") => `(tactic| ((with_reducible show wpAny _ _ (call (Value.ref 412) _) _ _ _); k_dflt (refine' Mine.least_r ?B ?F ?X ?N ?T ?hk ?hd ?hu ?s1 ?s2 ?s3 ?s4 ?s5 ?s6 ?s7 ?s8 ?_; walk_at "mine std"; (case s1 => exact n1); (case s2 => exact ord2); (case s3 => exact ht2); (case s4 => exact hok2); (case s5 => omega); (case s6 => exact g1); (case s7 => exact g2); (case s8 => assumption); k_whole; intro t' h' tk' F' N'; (try k_sweep))))
set_option hygiene false in
local macro_rules | `(tactic| walk_at "call ref") => `(tactic| ((with_reducible show wpAny _ _ (call (Value.ref 419) _) _ _ _); k_dflt (refine' Mine.great_r ?B ?F ?X ?N ?T ?hk ?hd ?hu ?s1 ?s2 ?s3 ?s4 ?s5 ?s6 ?s7 ?s8 ?_; walk_at "mine std"; (case s1 => exact n1); (case s2 => exact ord2); (case s3 => exact ht2); (case s4 => exact hok2); (case s5 => omega); (case s6 => exact g1); (case s7 => exact g2); (case s8 => assumption); k_whole; intro t' h' tk' F' N'; (try k_sweep))))
set_option hygiene false in
local macro_rules | `(tactic| walk_at "call ref") => `(tactic| ((with_reducible show wpAny _ _ (call (Value.ref 321) _) _ _ _); k_dflt (refine' Mine.lvalid_r ?B ?F ?X ?N ?T ?hk ?hd ?hu ?s1 ?_; walk_at "mine std"; (case s1 => assumption); k_whole; intro h' tk' F' N'; (try k_sweep))))
set_option hygiene false in
local macro_rules | `(tactic| walk_at "mine subT") => `(tactic| (intro pp hpp; have hq := (List.mem_append.mp hpp).elim (hT pp) _root_.id; repeat (first | exact hq | refine List.mem_cons_of_mem _ ?_)))
set_option hygiene false in
local macro_rules | `(tactic| walk_at "getMethod ref") => `(tactic| ((with_reducible show wpAny _ _ (getMethod (Value.ref (KS.c _)) (PySem.Str.ofString "valid") _) _ _ _); k_dflt (refine' Mine.gm_cur ?S ?C ?F ?X ?N ?s MN.valid ?_; (case S => assumption); (case C => assumption); (case F => k_asm); (case X => k_asm); (case N => k_asm); (case s => walk_at "mine subT"); k_whole)))
set_option hygiene false in
local macro_rules | `(tactic| walk_at "getMethod ref") => `(tactic| ((with_reducible show wpAny _ _ (getMethod (Value.ref (KS.c _)) (PySem.Str.ofString "key") _) _ _ _); k_dflt (refine' Mine.gm_cur ?S ?C ?F ?X ?N ?s MN.key ?_; (case S => assumption); (case C => assumption); (case F => k_asm); (case X => k_asm); (case N => k_asm); (case s => walk_at "mine subT"); k_whole)))
set_option hygiene false in
local macro_rules | `(tactic| walk_at "getMethod ref") => `(tactic| ((with_reducible show wpAny _ _ (getMethod (Value.ref (KS.c _)) (PySem.Str.ofString "value") _) _ _ _); k_dflt (refine' Mine.gm_cur ?S ?C ?F ?X ?N ?s MN.value ?_; (case S => assumption); (case C => assumption); (case F => k_asm); (case X => k_asm); (case N => k_asm); (case s => walk_at "mine subT"); k_whole)))
set_option hygiene false in
local macro_rules | `(tactic| walk_at "getMethod ref") => `(tactic| ((with_reducible show wpAny _ _ (getMethod (Value.ref (KS.c _)) (PySem.Str.ofString "seek_first") _) _ _ _); k_dflt (refine' Mine.gm_cur ?S ?C ?F ?X ?N ?s MN.first ?_; (case S => assumption); (case C => assumption); (case F => k_asm); (case X => k_asm); (case N => k_asm); (case s => walk_at "mine subT"); k_whole)))
set_option hygiene false in
local macro_rules | `(tactic| walk_at "getMethod ref") => `(tactic| ((with_reducible show wpAny _ _ (getMethod (Value.ref (KS.c _)) (PySem.Str.ofString "seek_last") _) _ _ _); k_dflt (refine' Mine.gm_cur ?S ?C ?F ?X ?N ?s MN.last ?_; (case S => assumption); (case C => assumption); (case F => k_asm); (case X => k_asm); (case N => k_asm); (case s => walk_at "mine subT"); k_whole)))
set_option hygiene false in
local macro_rules | `(tactic| walk_at "getMethod ref") => `(tactic| ((with_reducible show wpAny _ _ (getMethod (Value.ref (KS.c _)) (PySem.Str.ofString "seek") _) _ _ _); k_dflt (refine' Mine.gm_cur ?S ?C ?F ?X ?N ?s MN.seek ?_; (case S => assumption); (case C => assumption); (case F => k_asm); (case X => k_asm); (case N => k_asm); (case s => walk_at "mine subT"); k_whole)))
set_option hygiene false in
local macro_rules | `(tactic| walk_at "getMethod ref") => `(tactic| ((with_reducible show wpAny _ _ (getMethod (Value.ref (KS.c _)) (PySem.Str.ofString "step") _) _ _ _); k_dflt (refine' Mine.gm_cur ?S ?C ?F ?X ?N ?s MN.step ?_; (case S => assumption); (case C => assumption); (case F => k_asm); (case X => k_asm); (case N => k_asm); (case s => walk_at "mine subT"); k_whole)))
set_option hygiene false in
local macro_rules | `(tactic| walk_at "getMethod ref") => `(tactic| ((with_reducible show wpAny _ _ (getMethod (Value.ref (KS.c _)) (PySem.Str.ofString "back") _) _ _ _); k_dflt (refine' Mine.gm_cur ?S ?C ?F ?X ?N ?s MN.back ?_; (case S => assumption); (case C => assumption); (case F => k_asm); (case X => k_asm); (case N => k_asm); (case s => walk_at "mine subT"); k_whole)))
set_option hygiene false in
local macro_rules | `(tactic| walk_at "callWith ref") => `(tactic| ((with_reducible show wpAny _ _ (callWith _ (Value.ref (Mine.adr _ _)) _ _ _) _ _ _); k_dflt (first | (refine' callWith_K ?k1 (Mine.keep_cur _ _ _) ?_; (case k1 => k_asm); k_whole) | (refine' callWith_K0 ?k1 (Mine.keep_cur _ _ _) ?_; (case k1 => k_in); k_whole))))
set_option hygiene false in
local macro_rules | `(tactic| walk_at "call ref") => `(tactic| ((with_reducible show wpAny _ _ (call (Value.ref (Mine.adr _ MN.valid)) _) _ _ _); k_dflt (refine' Mine.use_valid ?S ?C ?B ?F ?X ?N ?T ?hk ?hd ?hu ?s ?_; (case S => assumption); (case C => assumption); walk_at "mine std"; (case s => walk_at "mine subT"); k_whole; intro h' tk' F' N'; (try k_sweep))))
set_option hygiene false in
local macro_rules | `(tactic| walk_at "call ref") => `(tactic| ((with_reducible show wpAny _ _ (call (Value.ref (Mine.adr _ MN.key)) _) _ _ _); k_dflt (refine' Mine.use_key ?S ?C ?B ?F ?X ?N ?T ?hk ?hd ?hu ?x ?s ?_; (case S => assumption); (case C => assumption); walk_at "mine std"; (case x => assumption); (case s => walk_at "mine subT"); k_whole; intro t' h' tk' F' N'; (try k_sweep))))
set_option hygiene false in
local macro_rules | `(tactic| walk_at "call ref") => `(tactic| ((with_reducible show wpAny _ _ (call (Value.ref (Mine.adr _ MN.value)) _) _ _ _); k_dflt (refine' Mine.use_value ?S ?C ?B ?F ?X ?N ?T ?hk ?hd ?hu ?x ?s ?_; (case S => assumption); (case C => assumption); walk_at "mine std"; (case x => assumption); (case s => walk_at "mine subT"); k_whole; intro t' h' tk' F' N'; (try k_sweep))))
set_option hygiene false in
local macro_rules | `(tactic| walk_at "call ref") => `(tactic| ((with_reducible show wpAny _ _ (call (Value.ref (Mine.adr _ MN.valid)) _) _ _ _); k_dflt (refine' Mine.use_valid_none ?S ?C ?B ?F ?X ?N ?T ?hk ?hd ?hu ?s ?_; (case S => assumption); (case C => assumption); walk_at "mine std"; (case s => walk_at "mine subT"); k_whole; intro h' tk' F' N'; (try k_sweep))))
set_option hygiene false in
local macro_rules | `(tactic| walk_at "call ref") => `(tactic| ((with_reducible show wpAny _ _ (call (Value.ref (Mine.adr _ MN.valid)) _) _ _ _); k_dflt (refine' Mine.use_valid_some ?S ?C ?B ?F ?X ?N ?T ?hk ?hd ?hu ?s ?_; (case S => assumption); (case C => assumption); walk_at "mine std"; (case s => walk_at "mine subT"); k_whole; intro h' tk' F' N'; (try k_sweep))))
set_option hygiene false in
local macro_rules | `(tactic| walk_at "call type:range") => `(tactic| ((rename Fr _ _ _ _ => F'); (rename News _ _ _ _ => N'); first | (with_unfolding_all refine range1_rows F' N' ?_; intro h' tk' t1' u1' v1' R' F' N' G') | (with_unfolding_all refine range3_rows F' N' (by decide) ?_; intro h' tk' t1' u1' v1' R' F' N' G')))
set_option hygiene false in
local macro_rules | `(tactic| walk_at "setItem ref int") => `(tactic| ((with_reducible show wpAny _ _ (setItem (Value.ref _) (Value.int _ _) _) _ _ _); k_dflt (refine' Mine.set_list ?F ?N ?U ?a ?b ?c ?_; (case F => k_asm); (case N => k_asm); (case U => k_upd); (case a => omega); (case b => omega); (case c => omega); k_whole; intro h' F' N'; (try k_sweep))))
theorem byteArr_app (a b : List Int) : byteArr (a ++ b) = byteArr a ++ byteArr b := by simp [byteArr]
theorem byteArr_bInts (u : Array UInt8) : byteArr (KBw.bInts u) = u := by
  apply bInts_inj
  exact KBa.ints_make (fun n hn => KBw.ints_in hn)
def l32 (b : Int) : List Int := [b % 256, b / 256 % 256, b / 65536 % 256, b / 16777216]
theorem l32_in {b : Int} (h0 : 0 ≤ b) (h1 : b < 4294967296) : KBa.In (l32 b) := by
  intro n hn
  simp only [l32, List.mem_cons, List.not_mem_nil, or_false] at hn
  omega
theorem l64_tag (u : Array UInt8) (q k : Nat) (hq : q < 72057594037927936) (hk : k < 256) : u ++ (byteArr (l32 (((k : Int) + (q : Int) * 256) % 4294967296)) ++ byteArr (l32 (((k : Int) + (q : Int) * 256) / 4294967296))) = ikb ⟨u, q, k⟩ := by
  unfold ikb IK.ints
  rw [byteArr_app, byteArr_bInts, ← byteArr_app]
  congr 2
  unfold l32 tagL
  simp only [List.cons_append, List.nil_append, List.cons.injEq, and_true]
  refine ⟨?_, ?_, ?_, ?_, ?_, ?_, ?_, ?_⟩ <;> omega
section
variable {w : World} {dp un : Nat} {gd : Option (List Code)} {cn : Str} {cs : Scope} {a : Addr} {ccd : Value} {cl : List (Str × Addr)} {outer : List Env} {A₀ : Around} {base h₀ : Heap} {L : Addr} {m mg mb : Str → Option Value} {mean : ExcName → Option Value} {s : Shared} {rest : Led}
  {Q E : Value → Shared → Prop}
set_option maxRecDepth 100000 in
set_option maxHeartbeats 8000000 in
theorem p32_r {b : Int} {t0 : Tok} (B : Below A₀ base outer h₀) (F : Fr h₀ L s.heap m) (X : (Mine.hd.heap_39 w.params).In h₀) (N : News h₀ L s.heap (rest)) (T : Top VW (looseW VW []) mean mg mb h₀) (hk : cs.kind = .function) (hd : dp + 1 < recursionLimit) (hu : un + 8 < cLine)
    (h0 : 0 ≤ b) (h1 : b < 4294967296) (k : ∀ v h' tk', Fr h₀ L h' m → News h₀ L h' (rest) → Q (.bytes (byteArr (l32 b)) v) { s with heap := h', toks := tk' }) :
    wpAny (model Challenge.rw_no0415_01.row.prog w) (ktrTop dp un gd cn cs L a ccd cl outer) (call (.ref 101) [.int b t0]) Q E s := by
  have hin := l32_in h0 h1
  unfold l32 at hin
  walk_at "mine begin"
  walk_at "mine steps"
  all_goals (exact k _ _ _ (by k_asm) (by walk_at "mine news"))
set_option hygiene false in
local macro_rules | `(tactic| walk_at "call ref") => `(tactic| ((with_reducible show wpAny _ _ (call (Value.ref 101) _) _ _ _); k_dflt (refine' Mine.p32_r ?B ?F ?X ?N ?T ?hk ?hd ?hu ?s1 ?s2 ?_; walk_at "mine std"; (case s1 => omega); (case s2 => omega); k_whole; intro t' h' tk' F' N'; (try k_sweep))))
set_option maxRecDepth 100000 in
set_option maxHeartbeats 8000000 in
theorem p64_r {b : Int} {t0 : Tok} (B : Below A₀ base outer h₀) (F : Fr h₀ L s.heap m) (X : (Mine.hd.heap_39 w.params).In h₀) (N : News h₀ L s.heap (rest)) (T : Top VW (looseW VW []) mean mg mb h₀) (hk : cs.kind = .function) (hd : dp + 2 < recursionLimit) (hu : un + 16 < cLine)
    (h0 : 0 ≤ b) (h1 : b < 18446744073709551616) (k : ∀ v h' tk', Fr h₀ L h' m → News h₀ L h' (rest) → Q (.bytes (byteArr (l32 (b % 4294967296)) ++ byteArr (l32 (b / 4294967296))) v) { s with heap := h', toks := tk' }) :
    wpAny (model Challenge.rw_no0415_01.row.prog w) (ktrTop dp un gd cn cs L a ccd cl outer) (call (.ref 108) [.int b t0]) Q E s := by
  walk_at "mine begin"
  walk_at "mine steps"
  all_goals (exact k _ _ _ (by k_asm) (by walk_at "mine news"))
set_option hygiene false in
local macro_rules | `(tactic| walk_at "call ref") => `(tactic| ((with_reducible show wpAny _ _ (call (Value.ref 108) _) _ _ _); k_dflt (refine' Mine.p64_r ?B ?F ?X ?N ?T ?hk ?hd ?hu ?s1 ?s2 ?_; walk_at "mine std"; (case s1 => omega); (case s2 => omega); k_whole; intro t' h' tk' F' N'; (try k_sweep))))
set_option maxRecDepth 100000 in
set_option maxHeartbeats 8000000 in
theorem mkik_r {u : Array UInt8} {q : Int} {t0 t1 t2 : Tok} (B : Below A₀ base outer h₀) (F : Fr h₀ L s.heap m) (X : (Mine.hd.heap_39 w.params).In h₀) (N : News h₀ L s.heap (rest)) (T : Top VW (looseW VW []) mean mg mb h₀) (hk : cs.kind = .function) (hd : dp + 3 < recursionLimit) (hu : un + 24 < cLine)
    (h0 : 0 ≤ q) (h1 : q < 72057594037927936) (hu2 : u.size ≤ 1000) (k : ∀ v h' tk', Fr h₀ L h' m → News h₀ L h' (rest) → Q (.bytes (ikb ⟨u, q.toNat, 1⟩) v) { s with heap := h', toks := tk' }) :
    wpAny (model Challenge.rw_no0415_01.row.prog w) (ktrTop dp un gd cn cs L a ccd cl outer) (call (.ref 136) [.bytes u t0, .int q t1, .int 1 t2]) Q E s := by
  obtain ⟨n, rfl⟩ : ∃ n : Nat, q = (n : Int) := ⟨q.toNat, by omega⟩
  rw [Int.toNat_natCast] at k
  rw [← l64_tag u n 1 (by omega) (by decide)] at k
  walk_at "mine begin"
  walk_at "mine steps"
  all_goals (exact k _ _ _ (by k_asm) (by walk_at "mine news"))
end
end Mine
namespace Mine
open PySem PySem.W PyProof.Rows
set_option hygiene false in
local macro_rules | `(tactic| walk_at "compareOp Lt bytes bytes") => `(tactic| with_reducible refine Mine.lt_bytes ?_)
set_option hygiene false in
local macro_rules | `(tactic| walk_at "compareOp Gt bytes bytes") => `(tactic| with_reducible refine Mine.gt_bytes ?_)
set_option hygiene false in
local macro_rules | `(tactic| walk_at "compareOp GtE bytes bytes") => `(tactic| with_reducible refine Mine.ge_bytes ?_)
set_option hygiene false in
local macro_rules | `(tactic| walk_at "call type:bytes") => `(tactic| ((with_reducible show wpAny _ _ (call (Value.type "bytes") [Value.bytes _ _]) _ _ _); refine Mine.call_bytes_bytes ?_))
set_option hygiene false in
local macro_rules | `(tactic| walk_at "binaryOp LShift int int") => `(tactic| ((first | (with_reducible refine Mine.shl8 ?h0 ?h1 ?_) | (with_reducible refine Mine.shl16 ?h0 ?h1 ?_) | (with_reducible refine Mine.shl24 ?h0 ?h1 ?_) | (with_reducible refine Mine.shl32 ?h0 ?h1 ?_)); (case h0 => omega); (case h1 => omega)))
set_option hygiene false in
local macro_rules | `(tactic| walk_at "binaryOp BitOr int int") => `(tactic| ((first | (with_reducible refine Mine.or8 ?h0 ?h1 ?h2 ?_) | (with_reducible refine Mine.or16 ?h0 ?h1 ?h2 ?_) | (with_reducible refine Mine.or24 ?h0 ?h1 ?h2 ?_) | (with_reducible refine Mine.or32 ?h0 ?h1 ?h2 ?_)); (case h0 => omega); (case h1 => omega); (case h2 => omega)))
set_option hygiene false in
local macro_rules | `(tactic| walk_at "binaryOp LShift int int") => `(tactic| ((with_reducible refine Mine.shl8b ?h0 ?h1 ?_); (case h0 => omega); (case h1 => omega)))
set_option hygiene false in
local macro_rules | `(tactic| walk_at "binaryOp RShift int int") => `(tactic| (first | (with_reducible refine Mine.shr8 ?_) | (with_reducible refine Mine.shr16 ?_) | (with_reducible refine Mine.shr24 ?_) | (with_reducible refine Mine.shr32 ?_)))
set_option hygiene false in
local macro_rules | `(tactic| walk_at "binaryOp BitAnd int int") => `(tactic| ((first | (with_reducible refine Mine.and255 ?h0 ?_) | (with_reducible refine Mine.andM32 ?h0 ?_)); (case h0 => omega)))
set_option hygiene false in
local macro_rules | `(tactic| walk_at "binaryOp BitOr int int") => `(tactic| ((with_reducible refine Mine.or8r ?h0 ?h1 ?h2 ?_); (case h0 => omega); (case h1 => omega); (case h2 => omega)))
set_option hygiene false in
local macro_rules | `(tactic| walk_at "call type:bytes") => `(tactic| ((with_reducible show wpAny _ _ (call (Value.type "bytes") [Value.ref _]) _ _ _); k_dflt (refine' KBa.make_K ?kbaF ?kbaN ?kbah ?kbal ?kbai ?kbar ?kban ?_; (case kbaF => k_asm); (case kbaN => k_asm); (case kbah => rfl); (case kbal => kba_isList); (case kbai => kba_listInts); (case kbar => assumption); (case kban => kba_size)); intro _ _ _ F' N' kbaIn))
set_option hygiene false in
local macro_rules | `(tactic| walk_at "binaryOp Add bytes bytes") => `(tactic| ((with_reducible refine Mine.add_bb ?hz ?_); (case hz => (first | omega | (simp only [Array.size_append, PySem.byteArr_size, Mine.l32, List.length_cons, List.length_nil]; omega))); intro _ _))
set_option hygiene false in
local macro_rules | `(tactic| k_room) => `(tactic| ktr_room)
set_option hygiene false in
local macro_rules | `(tactic| k_units) => `(tactic| ktr_units)
set_option hygiene false in
local macro_rules | `(tactic| k_all) => `(tactic| assumption)
set_option hygiene false in
local macro_rules | `(tactic| k_mem) => `(tactic| assumption)
set_option hygiene false in
local macro_rules | `(tactic| walk_at "mine begin") => `(tactic| ((rename Frag.In _ _ => X1); revert X1; k_fill; intro X1; refine wpAny_call ?_; k_dflt ktr_enter))
set_option hygiene false in
local macro_rules | `(tactic| walk_at "mine std") => `(tactic| ((case B => k_asm); (case F => k_asm); (case X => k_asm); (case N => k_asm); (case T => k_asm); (case hk => first | exact rfl | assumption); (case hd => ktr_room); (case hu => ktr_units)))
set_option hygiene false in
local macro_rules | `(tactic| walk_at "mine news") => `(tactic| (first | k_asm | (refine' news_of ?nn ?ns; (case nn => assumption); (case ns => (intro pp hpp; repeat (first | exact hpp | refine List.mem_cons_of_mem _ ?_))))))
set_option hygiene false in
local macro_rules | `(tactic| walk_at "mine std3") => `(tactic| ((case B => k_asm); (case F => k_asm); (case X => k_asm); (case T => k_asm); (case hk => first | exact rfl | assumption); (case hd => ktr_room); (case hu => ktr_units)))
set_option hygiene false in
local macro_rules | `(tactic| walk_at "mine sub") => `(tactic| (intro pp hpp; repeat (first | exact hpp | refine List.mem_cons_of_mem _ ?_)))
set_option hygiene false in
local macro_rules | `(tactic| walk_at "mine steps") => `(tactic| repeat' (first
  | ((fail_if_success (with_reducible show wpAny _ _ (exec (PySem.Stmt.While _ _ _ _) _) _ _ _)); (fail_if_success (with_reducible show wpAny _ _ (pyIter _) _ _ _)); (fail_if_success (with_reducible show wpAny _ _ (call (Value.ref (Mine.adr _ MN.first)) _) _ _ _)); (fail_if_success (with_reducible show wpAny _ _ (call (Value.ref (Mine.adr _ MN.last)) _) _ _ _)); (fail_if_success (with_reducible show wpAny _ _ (call (Value.ref (Mine.adr _ MN.seek)) _) _ _ _)); (fail_if_success (with_reducible show wpAny _ _ (call (Value.ref (Mine.adr _ MN.step)) _) _ _ _)); (fail_if_success (with_reducible show wpAny _ _ (call (Value.ref (Mine.adr _ MN.back)) _) _ _ _));
     (fail_if_success (with_reducible show wpAny _ _ (call (Value.ref 461) _) _ _ _)); (fail_if_success (with_reducible show wpAny _ _ (call (Value.ref 468) _) _ _ _)); (fail_if_success (with_reducible show wpAny _ _ (call (Value.ref 475) _) _ _ _));
     (first | (k_unfold; (try dsimp only)) | walk1 | (dsimp only; walk1) | (leave1; walk_say "STEP leave1"; (try dsimp only)) | fail "no step"))))
set_option hygiene false in
local macro_rules | `(tactic| walk_at "mine stepsL") => `(tactic| repeat' (first
  | ((fail_if_success (with_reducible show wpAny _ _ (exec (PySem.Stmt.While _ _ _ _) _) _ _ _)); (fail_if_success (with_reducible show wpAny _ _ (pyIter _) _ _ _)); (fail_if_success (with_reducible show wpAny _ _ (call (Value.ref (Mine.adr _ MN.first)) _) _ _ _)); (fail_if_success (with_reducible show wpAny _ _ (call (Value.ref (Mine.adr _ MN.last)) _) _ _ _)); (fail_if_success (with_reducible show wpAny _ _ (call (Value.ref (Mine.adr _ MN.seek)) _) _ _ _)); (fail_if_success (with_reducible show wpAny _ _ (call (Value.ref (Mine.adr _ MN.step)) _) _ _ _)); (fail_if_success (with_reducible show wpAny _ _ (call (Value.ref (Mine.adr _ MN.back)) _) _ _ _));
     (fail_if_success (with_reducible show wpAny _ _ (call (Value.ref 412) _) _ _ _)); (fail_if_success (with_reducible show wpAny _ _ (call (Value.ref 419) _) _ _ _)); (fail_if_success (with_reducible show wpAny _ _ (call (Value.ref 461) _) _ _ _)); (fail_if_success (with_reducible show wpAny _ _ (call (Value.ref 468) _) _ _ _)); (fail_if_success (with_reducible show wpAny _ _ (call (Value.ref 475) _) _ _ _));
     (first | (k_unfold; (try dsimp only)) | walk1 | (dsimp only; walk1) | (leave1; walk_say "STEP leave1"; (try dsimp only)) | fail "no step"))))
set_option hygiene false in
local macro_rules | `(tactic| walk_at "subscriptTail") => `(tactic| ((with_reducible show wpAny _ _ (subscriptTail _ _ (Value.ref _) (Value.int _ _)) _ _ _); k_dflt (refine' Mine.item_list ?N ?m ?a ?b ?x ?_; (case N => k_asm); (case m => k_mem); (case a => omega); (case b => omega); (case x => assumption); k_whole)))
set_option hygiene false in
local macro_rules | `(tactic| walk_at "subscriptTail") => `(tactic| ((with_reducible show wpAny _ _ (subscriptTail _ _ (Value.ref _) (Value.int _ _)) _ _ _); k_dflt (refine' Mine.item_tup ?N ?m ?a ?b ?x ?_; (case N => k_asm); (case m => k_mem); (case a => omega); (case b => omega); (case x => first | exact rfl | assumption); k_whole)))
set_option hygiene false in
local macro_rules | `(tactic| walk_at "eval Name") => `(tactic| (k_dflt (refine' nameX_L ?F ?v ?_ ?a ?b; (case b => rfl); (case F => k_asm); (case a => rfl); (case v => first | exact rfl | assumption); k_whole)))
set_option hygiene false in
local macro_rules | `(tactic| walk_at "call ref") => `(tactic| ((with_reducible show wpAny _ _ (call (Value.ref 115) _) _ _ _); k_dflt (refine' Mine.rd32_r ?B ?F ?X ?N ?T ?hk ?hd ?hu ?s1 ?s2 ?s3 ?s4 ?_; walk_at "mine std"; (case s1 => assumption); (case s2 => omega); (case s3 => omega); (case s4 => omega); k_whole; intro t' h' tk' F' N' b1' b2'; (try k_sweep))))
set_option hygiene false in
local macro_rules | `(tactic| walk_at "call ref") => `(tactic| ((with_reducible show wpAny _ _ (call (Value.ref 122) _) _ _ _); k_dflt (refine' Mine.rd64_r ?B ?F ?X ?N ?T ?hk ?hd ?hu ?s1 ?s2 ?s3 ?s4 ?_; walk_at "mine std"; (case s1 => assumption); (case s2 => omega); (case s3 => omega); (case s4 => omega); k_whole; intro t' h' tk' F' N'; (try k_sweep))))
set_option hygiene false in
local macro_rules | `(tactic| walk_at "call ref") => `(tactic| ((with_reducible show wpAny _ _ (call (Value.ref 150) _) _ _ _); k_dflt (refine' Mine.user_of_r ?B ?F ?X ?N ?T ?hk ?hd ?hu ?s1 ?_; walk_at "mine std"; (case s1 => assumption); k_whole; intro t' h' tk' F' N'; (try k_sweep))))
set_option hygiene false in
local macro_rules | `(tactic| walk_at "call ref") => `(tactic| ((with_reducible show wpAny _ _ (call (Value.ref 157) _) _ _ _); k_dflt (refine' Mine.tag_of_r ?B ?F ?X ?N ?T ?hk ?hd ?hu ?s1 ?_; walk_at "mine std"; (case s1 => assumption); k_whole; intro t' h' tk' F' N'; (try k_sweep))))
set_option hygiene false in
local macro_rules | `(tactic| walk_at "call ref") => `(tactic| ((with_reducible show wpAny _ _ (call (Value.ref 171) _) _ _ _); k_dflt (refine' Mine.ocmp_r ?B ?F ?X ?N ?T ?hk ?hd ?hu  ?_; walk_at "mine std"; k_whole; intro t' h' tk' F' N'; (try k_sweep))))
set_option hygiene false in
local macro_rules | `(tactic| walk_at "call ref") => `(tactic| ((with_reducible show wpAny _ _ (call (Value.ref 136) _) _ _ _); k_dflt (refine' Mine.mkik_r ?B ?F ?X ?N ?T ?hk ?hd ?hu ?s1 ?s2 ?s3 ?_; walk_at "mine std"; (case s1 => omega); (case s2 => omega); (case s3 => omega); k_whole; intro t' h' tk' F' N'; (try k_sweep))))
set_option hygiene false in
local macro_rules | `(tactic| walk_at "call ref") => `(tactic| ((with_reducible show wpAny _ _ (call (Value.ref 253) _) _ _ _); k_dflt (refine' Mine.icmp_r ?B ?F ?X ?N ?T ?hk ?hd ?hu ?s1 ?s2 ?s3 ?_; walk_at "mine std"; (case s1 => assumption); (case s2 => assumption); (case s3 => first | assumption | (refine' OrdIn.mono ?oo ?os; (case oo => assumption); (case os => walk_at "mine sub"))); k_whole; intro t' h' tk' F' N'; (try k_sweep))))
set_option hygiene false in
local macro_rules | `(tactic| walk_at "call ref") => `(tactic| ((with_reducible show wpAny _ _ (call (Value.ref 405) _) _ _ _); k_dflt (refine' Mine.look_r ?B ?F ?X ?N ?T ?hk ?hd ?hu ?s1 ?s2 ?s3 ?s4 ?s5 ?s6 ?s7 ?s8 ?s9 ?s10 ?s11 ?_; (case s1 => assumption); walk_at "mine std"; (case s2 => exact hC2); (case s3 => exact hT2); (case s4 => exact n1); (case s5 => exact n2); (case s6 => exact hcv2); (case s7 => omega); (case s8 => omega); (case s9 => exact g1); (case s10 => exact g2); (case s11 => assumption); k_whole; intro v' h' tk' F' N' V'; (try k_sweep))))
set_option hygiene false in
local macro_rules | `(tactic| walk_at "call ref") => `(tactic| ((with_reducible show wpAny _ _ (call (Value.ref 412) _) _ _ _); k_dflt (refine' Mine.least_r ?B ?F ?X ?N ?T ?hk ?hd ?hu ?s1 ?s2 ?s3 ?s4 ?s5 ?s6 ?s7 ?s8 ?_; walk_at "mine std"; (case s1 => exact n1); (case s2 => exact ord2); (case s3 => exact ht2); (case s4 => exact hok2); (case s5 => omega); (case s6 => exact g1); (case s7 => exact g2); (case s8 => assumption); k_whole; intro t' h' tk' F' N'; (try k_sweep))))
set_option hygiene false in
local macro_rules | `(tactic| walk_at "call ref") => `(tactic| ((with_reducible show wpAny _ _ (call (Value.ref 419) _) _ _ _); k_dflt (refine' Mine.great_r ?B ?F ?X ?N ?T ?hk ?hd ?hu ?s1 ?s2 ?s3 ?s4 ?s5 ?s6 ?s7 ?s8 ?_; walk_at "mine std"; (case s1 => exact n1); (case s2 => exact ord2); (case s3 => exact ht2); (case s4 => exact hok2); (case s5 => omega); (case s6 => exact g1); (case s7 => exact g2); (case s8 => assumption); k_whole; intro t' h' tk' F' N'; (try k_sweep))))
set_option hygiene false in
local macro_rules | `(tactic| walk_at "call ref") => `(tactic| ((with_reducible show wpAny _ _ (call (Value.ref 321) _) _ _ _); k_dflt (refine' Mine.lvalid_r ?B ?F ?X ?N ?T ?hk ?hd ?hu ?s1 ?_; walk_at "mine std"; (case s1 => assumption); k_whole; intro h' tk' F' N'; (try k_sweep))))
set_option hygiene false in
local macro_rules | `(tactic| walk_at "mine subT") => `(tactic| (intro pp hpp; have hq := (List.mem_append.mp hpp).elim (hT pp) _root_.id; repeat (first | exact hq | refine List.mem_cons_of_mem _ ?_)))
set_option hygiene false in
local macro_rules | `(tactic| walk_at "getMethod ref") => `(tactic| ((with_reducible show wpAny _ _ (getMethod (Value.ref (KS.c _)) (PySem.Str.ofString "valid") _) _ _ _); k_dflt (refine' Mine.gm_cur ?S ?C ?F ?X ?N ?s MN.valid ?_; (case S => assumption); (case C => assumption); (case F => k_asm); (case X => k_asm); (case N => k_asm); (case s => walk_at "mine subT"); k_whole)))
set_option hygiene false in
local macro_rules | `(tactic| walk_at "getMethod ref") => `(tactic| ((with_reducible show wpAny _ _ (getMethod (Value.ref (KS.c _)) (PySem.Str.ofString "key") _) _ _ _); k_dflt (refine' Mine.gm_cur ?S ?C ?F ?X ?N ?s MN.key ?_; (case S => assumption); (case C => assumption); (case F => k_asm); (case X => k_asm); (case N => k_asm); (case s => walk_at "mine subT"); k_whole)))
set_option hygiene false in
local macro_rules | `(tactic| walk_at "getMethod ref") => `(tactic| ((with_reducible show wpAny _ _ (getMethod (Value.ref (KS.c _)) (PySem.Str.ofString "value") _) _ _ _); k_dflt (refine' Mine.gm_cur ?S ?C ?F ?X ?N ?s MN.value ?_; (case S => assumption); (case C => assumption); (case F => k_asm); (case X => k_asm); (case N => k_asm); (case s => walk_at "mine subT"); k_whole)))
set_option hygiene false in
local macro_rules | `(tactic| walk_at "getMethod ref") => `(tactic| ((with_reducible show wpAny _ _ (getMethod (Value.ref (KS.c _)) (PySem.Str.ofString "seek_first") _) _ _ _); k_dflt (refine' Mine.gm_cur ?S ?C ?F ?X ?N ?s MN.first ?_; (case S => assumption); (case C => assumption); (case F => k_asm); (case X => k_asm); (case N => k_asm); (case s => walk_at "mine subT"); k_whole)))
set_option hygiene false in
local macro_rules | `(tactic| walk_at "getMethod ref") => `(tactic| ((with_reducible show wpAny _ _ (getMethod (Value.ref (KS.c _)) (PySem.Str.ofString "seek_last") _) _ _ _); k_dflt (refine' Mine.gm_cur ?S ?C ?F ?X ?N ?s MN.last ?_; (case S => assumption); (case C => assumption); (case F => k_asm); (case X => k_asm); (case N => k_asm); (case s => walk_at "mine subT"); k_whole)))
set_option hygiene false in
local macro_rules | `(tactic| walk_at "getMethod ref") => `(tactic| ((with_reducible show wpAny _ _ (getMethod (Value.ref (KS.c _)) (PySem.Str.ofString "seek") _) _ _ _); k_dflt (refine' Mine.gm_cur ?S ?C ?F ?X ?N ?s MN.seek ?_; (case S => assumption); (case C => assumption); (case F => k_asm); (case X => k_asm); (case N => k_asm); (case s => walk_at "mine subT"); k_whole)))
set_option hygiene false in
local macro_rules | `(tactic| walk_at "getMethod ref") => `(tactic| ((with_reducible show wpAny _ _ (getMethod (Value.ref (KS.c _)) (PySem.Str.ofString "step") _) _ _ _); k_dflt (refine' Mine.gm_cur ?S ?C ?F ?X ?N ?s MN.step ?_; (case S => assumption); (case C => assumption); (case F => k_asm); (case X => k_asm); (case N => k_asm); (case s => walk_at "mine subT"); k_whole)))
set_option hygiene false in
local macro_rules | `(tactic| walk_at "getMethod ref") => `(tactic| ((with_reducible show wpAny _ _ (getMethod (Value.ref (KS.c _)) (PySem.Str.ofString "back") _) _ _ _); k_dflt (refine' Mine.gm_cur ?S ?C ?F ?X ?N ?s MN.back ?_; (case S => assumption); (case C => assumption); (case F => k_asm); (case X => k_asm); (case N => k_asm); (case s => walk_at "mine subT"); k_whole)))
set_option hygiene false in
local macro_rules | `(tactic| walk_at "getMethod ref") => `(tactic| ((with_reducible show wpAny _ _ (getMethod (Value.ref inner) (PySem.Str.ofString "valid") _) _ _ _); k_dflt (refine' Mine.gm_cur ?S ?C ?F ?X ?N ?s MN.valid ?_; (case S => assumption); (case C => assumption); (case F => k_asm); (case X => k_asm); (case N => k_asm); (case s => walk_at "mine subT"); k_whole)))
set_option hygiene false in
local macro_rules | `(tactic| walk_at "getMethod ref") => `(tactic| ((with_reducible show wpAny _ _ (getMethod (Value.ref inner) (PySem.Str.ofString "key") _) _ _ _); k_dflt (refine' Mine.gm_cur ?S ?C ?F ?X ?N ?s MN.key ?_; (case S => assumption); (case C => assumption); (case F => k_asm); (case X => k_asm); (case N => k_asm); (case s => walk_at "mine subT"); k_whole)))
set_option hygiene false in
local macro_rules | `(tactic| walk_at "getMethod ref") => `(tactic| ((with_reducible show wpAny _ _ (getMethod (Value.ref inner) (PySem.Str.ofString "value") _) _ _ _); k_dflt (refine' Mine.gm_cur ?S ?C ?F ?X ?N ?s MN.value ?_; (case S => assumption); (case C => assumption); (case F => k_asm); (case X => k_asm); (case N => k_asm); (case s => walk_at "mine subT"); k_whole)))
set_option hygiene false in
local macro_rules | `(tactic| walk_at "getMethod ref") => `(tactic| ((with_reducible show wpAny _ _ (getMethod (Value.ref inner) (PySem.Str.ofString "seek_first") _) _ _ _); k_dflt (refine' Mine.gm_cur ?S ?C ?F ?X ?N ?s MN.first ?_; (case S => assumption); (case C => assumption); (case F => k_asm); (case X => k_asm); (case N => k_asm); (case s => walk_at "mine subT"); k_whole)))
set_option hygiene false in
local macro_rules | `(tactic| walk_at "getMethod ref") => `(tactic| ((with_reducible show wpAny _ _ (getMethod (Value.ref inner) (PySem.Str.ofString "seek_last") _) _ _ _); k_dflt (refine' Mine.gm_cur ?S ?C ?F ?X ?N ?s MN.last ?_; (case S => assumption); (case C => assumption); (case F => k_asm); (case X => k_asm); (case N => k_asm); (case s => walk_at "mine subT"); k_whole)))
set_option hygiene false in
local macro_rules | `(tactic| walk_at "getMethod ref") => `(tactic| ((with_reducible show wpAny _ _ (getMethod (Value.ref inner) (PySem.Str.ofString "seek") _) _ _ _); k_dflt (refine' Mine.gm_cur ?S ?C ?F ?X ?N ?s MN.seek ?_; (case S => assumption); (case C => assumption); (case F => k_asm); (case X => k_asm); (case N => k_asm); (case s => walk_at "mine subT"); k_whole)))
set_option hygiene false in
local macro_rules | `(tactic| walk_at "getMethod ref") => `(tactic| ((with_reducible show wpAny _ _ (getMethod (Value.ref inner) (PySem.Str.ofString "step") _) _ _ _); k_dflt (refine' Mine.gm_cur ?S ?C ?F ?X ?N ?s MN.step ?_; (case S => assumption); (case C => assumption); (case F => k_asm); (case X => k_asm); (case N => k_asm); (case s => walk_at "mine subT"); k_whole)))
set_option hygiene false in
local macro_rules | `(tactic| walk_at "getMethod ref") => `(tactic| ((with_reducible show wpAny _ _ (getMethod (Value.ref inner) (PySem.Str.ofString "back") _) _ _ _); k_dflt (refine' Mine.gm_cur ?S ?C ?F ?X ?N ?s MN.back ?_; (case S => assumption); (case C => assumption); (case F => k_asm); (case X => k_asm); (case N => k_asm); (case s => walk_at "mine subT"); k_whole)))
set_option hygiene false in
local macro_rules | `(tactic| walk_at "callWith ref") => `(tactic| ((with_reducible show wpAny _ _ (callWith _ (Value.ref (Mine.adr _ _)) _ _ _) _ _ _); k_dflt (first | (refine' callWith_K ?k1 (Mine.keep_cur _ _ _) ?_; (case k1 => k_asm); k_whole) | (refine' callWith_K0 ?k1 (Mine.keep_cur _ _ _) ?_; (case k1 => k_in); k_whole))))
set_option hygiene false in
local macro_rules | `(tactic| walk_at "call ref") => `(tactic| ((with_reducible show wpAny _ _ (call (Value.ref (Mine.adr _ MN.valid)) _) _ _ _); k_dflt (refine' Mine.use_valid ?S ?C ?B ?F ?X ?N ?T ?hk ?hd ?hu ?s ?_; (case S => assumption); (case C => assumption); walk_at "mine std"; (case s => walk_at "mine subT"); k_whole; intro h' tk' F' N'; (try k_sweep))))
set_option hygiene false in
local macro_rules | `(tactic| walk_at "call ref") => `(tactic| ((with_reducible show wpAny _ _ (call (Value.ref (Mine.adr _ MN.key)) _) _ _ _); k_dflt (refine' Mine.use_key ?S ?C ?B ?F ?X ?N ?T ?hk ?hd ?hu ?x ?s ?_; (case S => assumption); (case C => assumption); walk_at "mine std"; (case x => assumption); (case s => walk_at "mine subT"); k_whole; intro t' h' tk' F' N'; (try k_sweep))))
set_option hygiene false in
local macro_rules | `(tactic| walk_at "call ref") => `(tactic| ((with_reducible show wpAny _ _ (call (Value.ref (Mine.adr _ MN.value)) _) _ _ _); k_dflt (refine' Mine.use_value ?S ?C ?B ?F ?X ?N ?T ?hk ?hd ?hu ?x ?s ?_; (case S => assumption); (case C => assumption); walk_at "mine std"; (case x => assumption); (case s => walk_at "mine subT"); k_whole; intro t' h' tk' F' N'; (try k_sweep))))
set_option hygiene false in
local macro_rules | `(tactic| walk_at "call ref") => `(tactic| ((with_reducible show wpAny _ _ (call (Value.ref (Mine.adr _ MN.valid)) _) _ _ _); k_dflt (refine' Mine.use_valid_none ?S ?C ?B ?F ?X ?N ?T ?hk ?hd ?hu ?s ?_; (case S => assumption); (case C => assumption); walk_at "mine std"; (case s => walk_at "mine subT"); k_whole; intro h' tk' F' N'; (try k_sweep))))
set_option hygiene false in
local macro_rules | `(tactic| walk_at "call ref") => `(tactic| ((with_reducible show wpAny _ _ (call (Value.ref (Mine.adr _ MN.valid)) _) _ _ _); k_dflt (refine' Mine.use_valid_some ?S ?C ?B ?F ?X ?N ?T ?hk ?hd ?hu ?s ?_; (case S => assumption); (case C => assumption); walk_at "mine std"; (case s => walk_at "mine subT"); k_whole; intro h' tk' F' N'; (try k_sweep))))
set_option hygiene false in
local macro_rules | `(tactic| walk_at "call type:range") => `(tactic| ((rename Fr _ _ _ _ => F'); (rename News _ _ _ _ => N'); first | (with_unfolding_all refine range1_rows F' N' ?_; intro h' tk' t1' u1' v1' R' F' N' G') | (with_unfolding_all refine range3_rows F' N' (by decide) ?_; intro h' tk' t1' u1' v1' R' F' N' G')))
set_option hygiene false in
local macro_rules | `(tactic| walk_at "setItem ref int") => `(tactic| ((with_reducible show wpAny _ _ (setItem (Value.ref _) (Value.int _ _) _) _ _ _); k_dflt (refine' Mine.set_list ?F ?N ?U ?a ?b ?c ?_; (case F => k_asm); (case N => k_asm); (case U => k_upd); (case a => omega); (case b => omega); (case c => omega); k_whole; intro h' F' N'; (try k_sweep))))
structure UP where
  h1 : Int
  h2 : Int
  h3 : Int
  h4 : Int
  h5 : Int
  h6 : Int
  h7 : Int
  h8 : Int
  t1 : Tok
  t2 : Tok
  t3 : Tok
  t4 : Tok
  t5 : Tok
  t6 : Tok
  t7 : Tok
  t8 : Tok
  tu : Tok
  tl : Tok
  th : Tok
def bndV (b : Option (Array UInt8)) (t : Tok) : Value := match b with | none => .none | some b => .bytes b t
abbrev UD (q : UP) (inner : Addr) (upto : Int) (lo hi : Option (Array UInt8)) (going : Int) (tg : Tok) (good : Bool) (sk : Array UInt8) (tk : Tok) (sv : Array UInt8) (tv : Tok) : Obj :=
  dictOf [⟨q.h1, .str "inner" q.t1, .ref inner⟩, ⟨q.h2, .str "seq" q.t2, .int upto q.tu⟩, ⟨q.h3, .str "low" q.t3, bndV lo q.tl⟩, ⟨q.h4, .str "high" q.t4, bndV hi q.th⟩, ⟨q.h5, .str "going" q.t5, .int going tg⟩, ⟨q.h6, .str "good" q.t6, .bool good⟩, ⟨q.h7, .str "saved_key" q.t7, .bytes sk tk⟩, ⟨q.h8, .str "saved_value" q.t8, .bytes sv tv⟩] 8
/-- at or behind the upper bound -/
def pastHi (hi : Option (Array UInt8)) (u : Array UInt8) : Bool := match hi with | none => false | some h => !ltB u h
def underLo (lo : Option (Array UInt8)) (u : Array UInt8) : Bool := match lo with | none => false | some l => ltB u l
def openTo (skip : Option (Array UInt8)) (u : Array UInt8) : Bool := match skip with | none => true | some s => ltB s u
def IK.seq (e : IK) : Int := e.tag / 256
def IK.kind (e : IK) : Int := e.tag % 256
/-- the way ahead: the place of the entry that is told -/
def ffwd (hi : Option (Array UInt8)) (upto : Int) : List Row → Nat → Option (Array UInt8) → Option Nat
  | [], _, _ => none
  | x :: l, i, skip =>
    if pastHi hi x.1.u then none
    else if x.1.seq ≤ upto then
      if x.1.kind = 0 then ffwd hi upto l (i + 1) (if openTo skip x.1.u then some x.1.u else skip)
      else if openTo skip x.1.u then some i else ffwd hi upto l (i + 1) skip
    else ffwd hi upto l (i + 1) skip
def savedK (R : List Row) (h : Option Nat) : Array UInt8 := match h with | none => #[] | some j => match R[j]? with | none => #[] | some y => y.1.u
def savedV (R : List Row) (h : Option Nat) : Array UInt8 := match h with | none => #[] | some j => match R[j]? with | none => #[] | some y => y.2
/-- the way back from a length: the place of the entry that is told, the length where it stops -/
def fbwd (lo : Option (Array UInt8)) (upto : Int) (R : List Row) : Nat → Option Nat → Option Nat × Nat
  | 0, have_ => (have_, 0)
  | n + 1, have_ => match R[n]? with
    | none => (have_, n + 1)
    | some x =>
      if underLo lo x.1.u then (have_, n + 1)
      else if x.1.seq ≤ upto then
        if have_.isSome && ltB x.1.u (savedK R have_) then (have_, n + 1)
        else if x.1.kind = 0 then fbwd lo upto R n none else fbwd lo upto R n (some n)
      else fbwd lo upto R n have_
/-- back over the entries of one user -/
def skipb (R : List Row) (u : Array UInt8) : Nat → Nat
  | 0 => 0
  | n + 1 => match R[n]? with
    | none => n + 1
    | some x => if ltB x.1.u u then n + 1 else skipb R u n
theorem WS2 {h₀ h' : Heap} {L : Addr} {s : Shared} {J : Nat → (Str → Option Value) → List (Addr × Obj) → Prop} {Q : Flow → Shared → Prop} {n n' tk : Nat} {f : Flow} {m₂ : Str → Option Value} {news₂ : List (Addr × Obj)}
    (hf : f = .next ∨ f = .cont) (F : Fr h₀ L h' m₂) (N : News h₀ L h' news₂) (hn : n' < n) (hJ : J n' m₂ news₂) : WhileStep2 h₀ L s J Q n f { s with heap := h', toks := tk } := by
  rcases hf with rfl | rfl <;> exact ⟨h', tk, m₂, news₂, n', rfl, F, N, hn, hJ⟩
def startOf (R : List Row) (st : Option Nat) : Nat := match st with | some i => i | none => R.length
theorem placeOf_start {R : List Row} {st : Option Nat} (h : ∀ i, st = some i → i < R.length) : placeOf R (startOf R st) = st := by
  cases st with
  | none => exact placeOf_ge (Nat.lt_irrefl _)
  | some i => exact placeOf_lt (h i rfl)
theorem startOf_le {R : List Row} {st : Option Nat} (h : ∀ i, st = some i → i < R.length) : startOf R st ≤ R.length := by
  cases st with
  | none => exact Nat.le_refl _
  | some i => exact Nat.le_of_lt (h i rfl)
theorem tag_pos (e : IK) : 0 ≤ e.tag := by unfold IK.tag; omega
section
variable {hi lo : Option (Array UInt8)} {upto : Int} {x : Row} {l : List Row} {i : Nat} {skip : Option (Array UInt8)}
theorem ff_past (h1 : pastHi hi x.1.u = true) : ffwd hi upto (x :: l) i skip = none := by rw [ffwd, if_pos h1]
theorem ff_inv (h1 : pastHi hi x.1.u = false) (h2 : ¬ x.1.tag / 256 ≤ upto) : ffwd hi upto (x :: l) i skip = ffwd hi upto l (i + 1) skip := by
  rw [ffwd, if_neg (by rw [h1]; decide), if_neg (c := x.1.seq ≤ upto) h2]
theorem ff_delO (h1 : pastHi hi x.1.u = false) (h2 : x.1.tag / 256 ≤ upto) (h3 : x.1.tag % 256 = 0) (h4 : openTo skip x.1.u = true) : ffwd hi upto (x :: l) i skip = ffwd hi upto l (i + 1) (some x.1.u) := by
  rw [ffwd, if_neg (by rw [h1]; decide), if_pos (c := x.1.seq ≤ upto) h2, if_pos (c := x.1.kind = 0) h3, if_pos h4]
theorem ff_delS (h1 : pastHi hi x.1.u = false) (h2 : x.1.tag / 256 ≤ upto) (h3 : x.1.tag % 256 = 0) (h4 : openTo skip x.1.u = false) : ffwd hi upto (x :: l) i skip = ffwd hi upto l (i + 1) skip := by
  rw [ffwd, if_neg (by rw [h1]; decide), if_pos (c := x.1.seq ≤ upto) h2, if_pos (c := x.1.kind = 0) h3, if_neg (by rw [h4]; decide)]
theorem ff_putO (h1 : pastHi hi x.1.u = false) (h2 : x.1.tag / 256 ≤ upto) (h3 : x.1.tag % 256 ≠ 0) (h4 : openTo skip x.1.u = true) : ffwd hi upto (x :: l) i skip = some i := by
  rw [ffwd, if_neg (by rw [h1]; decide), if_pos (c := x.1.seq ≤ upto) h2, if_neg (c := x.1.kind = 0) h3, if_pos h4]
theorem ff_putS (h1 : pastHi hi x.1.u = false) (h2 : x.1.tag / 256 ≤ upto) (h3 : x.1.tag % 256 ≠ 0) (h4 : openTo skip x.1.u = false) : ffwd hi upto (x :: l) i skip = ffwd hi upto l (i + 1) skip := by
  rw [ffwd, if_neg (by rw [h1]; decide), if_pos (c := x.1.seq ≤ upto) h2, if_neg (c := x.1.kind = 0) h3, if_neg (by rw [h4]; decide)]
theorem pastF {hb u : Array UInt8} (h : ltB u hb = true) : pastHi (some hb) u = false := by show (!ltB u hb) = false; rw [h]; rfl
theorem pastT {hb u : Array UInt8} (h : ltB u hb = false) : pastHi (some hb) u = true := by show (!ltB u hb) = true; rw [h]; rfl
end
section
variable {w : World} {dp un D : Nat} {gd : Option (List Code)} {cn : Str} {cs : Scope} {a f : Addr} {ccd : Value} {cl : List (Str × Addr)} {outer : List Env} {A₀ : Around} {base h₀ : Heap} {L : Addr} {m mg mb : Str → Option Value} {mean : ExcName → Option Value} {s : Shared} {news fp rest : Led}
  {Q E : Value → Shared → Prop} {C : CurP} {R : List Row} {inner du : Addr} {od : Obj} {kd : Bool} {args : List Value} {st' : Option Nat}
/-- the inner iterator of a user's is moved -/
theorem inner_call (H : ∀ {E0 : Led}, (∀ p ∈ rest, p ∈ E0) → Off fp E0 → Calls w D f args fp E0 fun r fp' => r = .none ∧ sameAdr fp' fp ∧ C fp' rest inner kd R st') (offi : Off fp rest) (offd : ∀ p ∈ fp ++ rest, p.1 ≠ du)
    (B : Below A₀ base outer h₀) (F : Fr h₀ L s.heap m) (X : (Mine.hd.heap_39 w.params).In h₀) (N : News h₀ L s.heap news) (T : Top VW (looseW VW []) mean mg mb h₀) (hk : cs.kind = .function) (hd : dp + D < recursionLimit) (hu : un + 8 * D < cLine)
    (hdu : (du, od) ∈ news) (hs : ∀ p ∈ fp ++ rest, p ∈ news)
    (k : ∀ fp' h' tk', Fr h₀ L h' m → News h₀ L h' ((du, od) :: (fp' ++ rest)) → sameAdr fp' fp → C fp' rest inner kd R st' → Q .none { s with heap := h', toks := tk' }) :
    wpAny (model Challenge.rw_no0415_01.row.prog w) (ktrTop dp un gd cn cs L a ccd cl outer) (call (.ref f) args) Q E s := by
  refine (H (E0 := (du, od) :: rest) (fun p hp => .tail _ hp) ?_).use B F X N T hk hd hu ?_ ?_
  · intro p hp q hq
    rcases List.mem_cons.mp hq with rfl | h
    · exact fun e => offd p (List.mem_append_left _ hp) e.symm
    · exact offi p hp q h
  · intro p hp
    rcases List.mem_append.mp hp with h | h
    · exact hs p (List.mem_append_left _ h)
    · rcases List.mem_cons.mp h with rfl | h
      · exact hdu
      · exact hs p (List.mem_append_right _ h)
  · rintro r fp' h' tk' F' N' ⟨rfl, ha, hC⟩
    refine k fp' h' tk' F' (news_of N' fun p hp => ?_) ha hC
    rcases List.mem_cons.mp hp with rfl | h
    · exact List.mem_append_right _ (.head _)
    · rcases List.mem_append.mp h with h | h
      · exact List.mem_append_left _ h
      · exact List.mem_append_right _ (.tail _ h)
end
theorem offd_adr {fp fp' rest : Led} {du : Addr} (h : ∀ p ∈ fp ++ rest, p.1 ≠ du) (ha : sameAdr fp' fp) : ∀ p ∈ fp' ++ rest, p.1 ≠ du := fun p hp => by
  rcases List.mem_append.mp hp with g | g
  · have : p.1 ∈ fp.map (·.1) := ha ▸ List.mem_map_of_mem g
    obtain ⟨p', hp', e⟩ := List.mem_map.mp this
    rw [← e]; exact h p' (List.mem_append_left _ hp')
  · exact h p (List.mem_append_right _ g)
section
variable {w : World} {dp un : Nat} {gd : Option (List Code)} {cn : Str} {cs : Scope} {a : Addr} {ccd : Value} {cl : List (Str × Addr)} {outer : List Env} {A₀ : Around} {base h₀ : Heap} {L : Addr} {m mg mb : Str → Option Value} {mean : ExcName → Option Value} {s : Shared} {rest : Led}
  {Q E : Value → Shared → Prop} {D : Nat} {C : CurP} {u du inner : Addr} {kd : Bool} {R : List Row} {st : Option Nat} {fpi : Led} {q : UP} {upto going : Int} {lo hi : Option (Array UInt8)} {tg tsk tsv : Tok} {good : Bool} {sk sv : Array UInt8}
set_option maxRecDepth 100000 in
set_option maxHeartbeats 8000000 in
theorem uff_r {b : Bool} (B : Below A₀ base outer h₀) (F : Fr h₀ L s.heap m) (X : (Mine.hd.heap_39 w.params).In h₀) (N : News h₀ L s.heap ((du, UD q inner upto lo hi (going) tg good (sk) tsk (sv) tsv) :: (fpi ++ rest))) (T : Top VW (looseW VW []) mean mg mb h₀) (hk : cs.kind = .function) (hd : dp + (D + 6) < recursionLimit) (hu : un + 8 * (D + 6) < cLine)
    (S : CurSpec w D C) (hC : C fpi rest inner kd R st) (offi : Off fpi rest) (offd : ∀ p ∈ fpi ++ rest, p.1 ≠ du) (m1 : (u, instObj 611 du) ∈ rest) (hkd : ∀ x ∈ R, x.1.kind ≤ 1) (k : ∀ fp' st' tka tvb h' tk', Fr h₀ L h' m → News h₀ L h' ((du, UD q inner upto lo hi (going) tg (ffwd hi upto (R.drop (startOf R st)) (startOf R st) (if b then some sk else none)).isSome (#[]) tka (#[]) tvb) :: (fp' ++ rest)) → sameAdr fp' fpi → C fp' rest inner kd R st' → (∀ j, ffwd hi upto (R.drop (startOf R st)) (startOf R st) (if b then some sk else none) = some j → st' = some j) → Q (.none) { s with heap := h', toks := tk' }) :
    wpAny (model Challenge.rw_no0415_01.row.prog w) (ktrTop dp un gd cn cs L a ccd cl outer) (call (.ref 573) [.ref u, .bool b]) Q E s := by
  have hsz := S.size hC
  have hle := startOf_le hsz.2
  generalize hr0 : ffwd hi upto (R.drop (startOf R st)) (startOf R st) (if b then some sk else none) = r0 at k
  generalize eT : fpi ++ rest = TT at N
  have q1 : (u, instObj 611 du) ∈ TT := eT ▸ List.mem_append_right _ m1
  have f1 : ∀ p ∈ TT, p.1 ≠ du := eT ▸ offd
  walk_at "mine begin"
  walk_at "mine steps"
  rename Fr _ _ _ _ => FF
  rename News _ _ _ _ => NN
  subst eT
  refine While_inv2 (fun n m₁ news₁ => m₁ "self" = some (.ref u) ∧ ∃ (i : Nat) (b' : Bool) (sk' : Array UInt8) (tk' : Tok) (fp₁ : Led), m₁ "skipping" = some (.bool b') ∧ news₁ = (du, UD q inner upto lo hi going tg good sk' tk' sv tsv) :: (fp₁ ++ rest) ∧ sameAdr fp₁ fpi ∧ C fp₁ rest inner kd R (placeOf R i) ∧ ffwd hi upto (R.drop i) i (if b' then some sk' else none) = r0 ∧ i + n = R.length) (n₀ := R.length - startOf R st) FF NN ⟨rfl, startOf R st, b, sk, tsk, fpi, rfl, rfl, rfl, by rw [placeOf_start hsz.2]; exact hC, hr0, by omega⟩ ?_
  clear FF NN hC q1 f1
  rintro n m₁ news₁ h₁ tk₁ F₁ N₁ ⟨e1, i, b', sk', tks, fp₁, e2, rfl, ha, hC, hr1, hn⟩
  have offi1 : Off fp₁ rest := offi.adr ha
  have offd1 : ∀ p ∈ fp₁ ++ rest, p.1 ≠ du := fun p hp => by
    rcases List.mem_append.mp hp with h | h
    · have : p.1 ∈ fpi.map (·.1) := ha ▸ List.mem_map_of_mem h
      obtain ⟨p', hp', e⟩ := List.mem_map.mp this
      rw [← e]; exact offd p' (List.mem_append_left _ hp')
    · exact offd p (List.mem_append_right _ h)
  generalize eT : fp₁ ++ rest = TT at N₁
  have q1 : (u, instObj 611 du) ∈ TT := eT ▸ List.mem_append_right _ m1
  have f1 : ∀ p ∈ TT, p.1 ≠ du := eT ▸ offd1
  have hT : ∀ p ∈ fp₁, p ∈ TT := fun p hp => eT ▸ List.mem_append_left _ hp
  have hCT : C fp₁ TT inner kd R (placeOf R i) := S.mono hC fun p hp => eT ▸ List.mem_append_right _ hp
  by_cases hi2 : i < R.length
  · rw [placeOf_lt hi2] at hCT
    obtain ⟨x, hx⟩ : ∃ x, R[i]? = some x := ⟨_, List.getElem?_eq_getElem hi2⟩
    have hxo : x.1.Ok := S.ok hC _ (List.mem_of_getElem? hx)
    have hxt := tag_pos x.1
    have hxk : x.1.tag % 256 ≤ 1 := hkd _ (List.mem_of_getElem? hx)
    have hd1 : R.drop i = x :: R.drop (i + 1) := by rw [List.drop_eq_getElem_cons hi2, (List.getElem?_eq_some_iff.mp hx).2]
    rw [hd1] at hr1
    walk_at "mine steps"
    rename News _ _ _ _ => NN
    rcases hi with _ | hb
    all_goals (unfold UD bndV at NN; dsimp only at NN)
    all_goals (walk_at "mine steps")
    all_goals (have hCs : C fp₁ rest inner kd R (some i) := placeOf_lt hi2 ▸ hC)
    all_goals (try dsimp only)
    all_goals (first
      | (fail_if_success (with_reducible show wpAny _ _ (call _ _) _ _ _))
      | (rename News _ _ _ _ => NN
         refine' inner_call (fun h1 h2 => S.step hCs h1 h2) offi1 offd1 ?B ?F ?X NN ?T ?hk ?hd ?hu ?m ?s ?_
         walk_at "mine std3"
         (case m => (repeat (first | exact List.Mem.head _ | refine List.Mem.tail _ ?_)))
         (case s => (rw [eT]; walk_at "mine sub"))
         clear NN
         intro fp₂ h' tk' F' N' ha2 hC2
         walk_at "mine steps"
         (try dsimp only)
         refine' WS2 (n' := n - 1) (.inl rfl) F' N' (by omega) ⟨e1, i + 1, _, _, _, fp₂, ?eb, rfl, ha2.trans ha, by rw [← nextAt_eq]; exact hC2, ?rr, by omega⟩
         (case eb => first | exact e2 | rfl)
         (case rr => refine Eq.trans (Eq.symm ?rr2) hr1
                     (case rr2 => first
                       | exact ff_inv (by first | rfl | exact pastF (by assumption)) (by assumption)
                       | (have hb' : b' = false := by assumption
                          subst hb'
                          exact ff_delO (by first | rfl | exact pastF (by assumption)) (by assumption) (by assumption) rfl)
                       | (have hb' : b' = true := by assumption
                          subst hb'
                          first
                          | exact ff_delO (by first | rfl | exact pastF (by assumption)) (by assumption) (by assumption) (by assumption)
                          | exact ff_delS (by first | rfl | exact pastF (by assumption)) (by assumption) (by assumption) (by assumption)
                          | exact ff_putS (by first | rfl | exact pastF (by assumption)) (by assumption) (by assumption) (by assumption))))))
    all_goals (dsimp only [WhileStep2])
    all_goals (first
      | (obtain rfl : none = r0 := (ff_past (pastT (by assumption))).symm.trans hr1
         walk_at "mine steps"
         subst eT
         exact k fp₁ (some i) _ _ _ _ (by k_asm) (by walk_at "mine news") ha hCs (fun j hj => by cases hj))
      | (obtain rfl : some i = r0 := by
           refine Eq.trans (Eq.symm ?_) hr1
           first
           | (have hb' : b' = false := by assumption
              subst hb'
              exact ff_putO (by first | rfl | exact pastF (by assumption)) (by assumption) (by assumption) rfl)
           | (have hb' : b' = true := by assumption
              subst hb'
              exact ff_putO (by first | rfl | exact pastF (by assumption)) (by assumption) (by assumption) (by assumption))
         walk_at "mine steps"
         subst eT
         exact k fp₁ (some i) _ _ _ _ (by k_asm) (by walk_at "mine news") ha hCs (fun j hj => hj)))
  · have hd0 : R.drop i = [] := List.drop_eq_nil_of_le (by omega)
    rw [hd0] at hr1
    obtain rfl : none = r0 := hr1
    rw [placeOf_ge hi2] at hCT
    walk_at "mine steps"
    have hCs : C fp₁ rest inner kd R none := placeOf_ge hi2 ▸ hC
    subst eT
    all_goals (exact k fp₁ none _ _ _ _ (by k_asm) (by walk_at "mine news") ha hCs (fun j hj => by cases hj))
end
open PySem PySem.W PyProof.Rows
section
variable {lo : Option (Array UInt8)} {upto : Int} {R : List Row} {x : Row} {n : Nat} {hv : Option Nat}
theorem fb_past (hx : R[n]? = some x) (h1 : underLo lo x.1.u = true) : fbwd lo upto R (n + 1) hv = (hv, n + 1) := by rw [fbwd, hx]; simp only; rw [if_pos h1]
theorem fb_inv (hx : R[n]? = some x) (h1 : underLo lo x.1.u = false) (h2 : ¬ x.1.tag / 256 ≤ upto) : fbwd lo upto R (n + 1) hv = fbwd lo upto R n hv := by
  rw [fbwd, hx]; simp only; rw [if_neg (by rw [h1]; decide), if_neg (c := x.1.seq ≤ upto) h2]
theorem fb_brk (hx : R[n]? = some x) (h1 : underLo lo x.1.u = false) (h2 : x.1.tag / 256 ≤ upto) (h3 : hv.isSome = true) (h4 : ltB x.1.u (savedK R hv) = true) : fbwd lo upto R (n + 1) hv = (hv, n + 1) := by
  rw [fbwd, hx]; simp only; rw [if_neg (by rw [h1]; decide), if_pos (c := x.1.seq ≤ upto) h2, if_pos (by rw [h3, h4]; rfl)]
theorem fb_del (hx : R[n]? = some x) (h1 : underLo lo x.1.u = false) (h2 : x.1.tag / 256 ≤ upto) (h3 : (hv.isSome && ltB x.1.u (savedK R hv)) = false) (h4 : x.1.tag % 256 = 0) : fbwd lo upto R (n + 1) hv = fbwd lo upto R n none := by
  rw [fbwd, hx]; simp only; rw [if_neg (by rw [h1]; decide), if_pos (c := x.1.seq ≤ upto) h2, if_neg (by rw [h3]; decide), if_pos (c := x.1.kind = 0) h4]
theorem fb_put (hx : R[n]? = some x) (h1 : underLo lo x.1.u = false) (h2 : x.1.tag / 256 ≤ upto) (h3 : (hv.isSome && ltB x.1.u (savedK R hv)) = false) (h4 : x.1.tag % 256 ≠ 0) : fbwd lo upto R (n + 1) hv = fbwd lo upto R n (some n) := by
  rw [fbwd, hx]; simp only; rw [if_neg (by rw [h1]; decide), if_pos (c := x.1.seq ≤ upto) h2, if_neg (by rw [h3]; decide), if_neg (c := x.1.kind = 0) h4]
theorem andF1 {a b : Bool} (h : a = false) : (a && b) = false := by rw [h]; rfl
theorem andF2 {a b : Bool} (h : b = false) : (a && b) = false := by rw [h]; cases a <;> rfl
theorem savedK_some (hx : R[n]? = some x) : savedK R (some n) = x.1.u := by unfold savedK; simp only [hx]
theorem savedV_some (hx : R[n]? = some x) : savedV R (some n) = x.2 := by unfold savedV; simp only [hx]
end
def lenOf (st : Option Nat) : Nat := match st with | none => 0 | some i => i + 1
theorem befOf_len (st : Option Nat) : befOf (lenOf st) = st := by cases st <;> rfl
section
variable {w : World} {dp un : Nat} {gd : Option (List Code)} {cn : Str} {cs : Scope} {a : Addr} {ccd : Value} {cl : List (Str × Addr)} {outer : List Env} {A₀ : Around} {base h₀ : Heap} {L : Addr} {m mg mb : Str → Option Value} {mean : ExcName → Option Value} {s : Shared} {rest : Led}
  {Q E : Value → Shared → Prop} {D : Nat} {C : CurP} {u du inner : Addr} {kd : Bool} {R : List Row} {st : Option Nat} {fpi : Led} {q : UP} {upto going : Int} {lo hi : Option (Array UInt8)} {tg tsk tsv : Tok} {good : Bool} {sk sv : Array UInt8}
set_option maxRecDepth 100000 in
set_option maxHeartbeats 8000000 in
theorem ufb_r  (B : Below A₀ base outer h₀) (F : Fr h₀ L s.heap m) (X : (Mine.hd.heap_39 w.params).In h₀) (N : News h₀ L s.heap ((du, UD q inner upto lo hi (going) tg good (sk) tsk (sv) tsv) :: (fpi ++ rest))) (T : Top VW (looseW VW []) mean mg mb h₀) (hk : cs.kind = .function) (hd : dp + (D + 6) < recursionLimit) (hu : un + 8 * (D + 6) < cLine)
    (S : CurSpec w D C) (hC : C fpi rest inner kd R st) (offi : Off fpi rest) (offd : ∀ p ∈ fpi ++ rest, p.1 ≠ du) (m1 : (u, instObj 611 du) ∈ rest) (hkd : ∀ x ∈ R, x.1.kind ≤ 1) (k : ∀ fp' tgb tka tvb h' tk', Fr h₀ L h' m → News h₀ L h' ((du, UD q inner upto lo hi (1) tgb (fbwd lo upto R (lenOf st) none).1.isSome (savedK R (fbwd lo upto R (lenOf st) none).1) tka (savedV R (fbwd lo upto R (lenOf st) none).1) tvb) :: (fp' ++ rest)) → sameAdr fp' fpi → C fp' rest inner kd R (befOf (fbwd lo upto R (lenOf st) none).2) → Q (.none) { s with heap := h', toks := tk' }) :
    wpAny (model Challenge.rw_no0415_01.row.prog w) (ktrTop dp un gd cn cs L a ccd cl outer) (call (.ref 580) [.ref u]) Q E s := by
  have hsz := S.size hC
  have hle : lenOf st ≤ R.length := by cases st with | none => exact Nat.zero_le _ | some i => exact hsz.2 i rfl
  generalize hr0 : fbwd lo upto R (lenOf st) none = r0 at k
  generalize eT : fpi ++ rest = TT at N
  have q1 : (u, instObj 611 du) ∈ TT := eT ▸ List.mem_append_right _ m1
  have f1 : ∀ p ∈ TT, p.1 ≠ du := eT ▸ offd
  walk_at "mine begin"
  walk_at "mine steps"
  rename Fr _ _ _ _ => FF
  rename News _ _ _ _ => NN
  subst eT
  refine While_inv2 (fun n m₁ news₁ => m₁ "self" = some (.ref u) ∧ n ≤ R.length ∧ ∃ (hv : Option Nat) (tks tvs : Tok) (fp₁ : Led), m₁ "have" = some (.bool hv.isSome) ∧ news₁ = (du, UD q inner upto lo hi going tg false (savedK R hv) tks (savedV R hv) tvs) :: (fp₁ ++ rest) ∧ sameAdr fp₁ fpi ∧ C fp₁ rest inner kd R (befOf n) ∧ fbwd lo upto R n hv = r0) (n₀ := lenOf st) FF NN ⟨rfl, hle, none, _, _, fpi, rfl, rfl, rfl, by rw [befOf_len]; exact hC, hr0⟩ ?_
  clear FF NN hC q1 f1
  rintro n m₁ news₁ h₁ tk₁ F₁ N₁ ⟨e1, hn, hv, tks, tvs, fp₁, e2, rfl, ha, hC, hr1⟩
  have offi1 : Off fp₁ rest := offi.adr ha
  have offd1 : ∀ p ∈ fp₁ ++ rest, p.1 ≠ du := offd_adr offd ha
  generalize eT : fp₁ ++ rest = TT at N₁
  have q1 : (u, instObj 611 du) ∈ TT := eT ▸ List.mem_append_right _ m1
  have f1 : ∀ p ∈ TT, p.1 ≠ du := eT ▸ offd1
  have hT : ∀ p ∈ fp₁, p ∈ TT := fun p hp => eT ▸ List.mem_append_left _ hp
  have hCT : C fp₁ TT inner kd R (befOf n) := S.mono hC fun p hp => eT ▸ List.mem_append_right _ hp
  cases n with
  | succ n =>
    obtain ⟨x, hx⟩ : ∃ x, R[n]? = some x := ⟨_, List.getElem?_eq_getElem (by omega)⟩
    have hxo : x.1.Ok := S.ok hC _ (List.mem_of_getElem? hx)
    have hxt := tag_pos x.1
    have hxk : x.1.tag % 256 ≤ 1 := hkd _ (List.mem_of_getElem? hx)
    have eb : befOf (n + 1) = some n := rfl
    rw [eb] at hCT hC
    walk_at "mine steps"
    rename News _ _ _ _ => NN
    rcases lo with _ | lb
    all_goals (unfold UD bndV at NN; dsimp only at NN)
    all_goals (walk_at "mine steps")
    all_goals (try dsimp only)
    all_goals (first
      | (fail_if_success (with_reducible show wpAny _ _ (call _ _) _ _ _))
      | (rename News _ _ _ _ => NN
         refine' inner_call (fun h1 h2 => S.back hC h1 h2) offi1 offd1 ?B ?F ?X NN ?T ?hk ?hd ?hu ?m ?s ?_
         walk_at "mine std3"
         (case m => (repeat (first | exact List.Mem.head _ | refine List.Mem.tail _ ?_)))
         (case s => (rw [eT]; walk_at "mine sub"))
         clear NN
         intro fp₂ h' tk' F' N' ha2 hC2
         walk_at "mine steps"
         (try dsimp only)
         first
         | (have hlt : ¬ x.1.tag / 256 ≤ upto := by assumption
            exact WS2 (n' := n) (.inl rfl) F' N' (by omega) ⟨e1, by omega, hv, _, _, fp₂, e2, rfl, ha2.trans ha, hC2, (fb_inv hx (by first | rfl | assumption) hlt).symm.trans hr1⟩)
         | (have hlt : x.1.tag % 256 = 0 := by assumption
            exact WS2 (n' := n) (.inl rfl) F' N' (by omega) ⟨e1, by omega, none, _, _, fp₂, rfl, rfl, ha2.trans ha, hC2, (fb_del hx (by first | rfl | assumption) (by assumption) (by first | exact andF1 (by assumption) | exact andF2 (by assumption)) hlt).symm.trans hr1⟩)
         | (refine' WS2 (n' := n) (.inl rfl) F' N' (by omega) ⟨e1, by omega, some n, _, _, fp₂, rfl, ?ee, ha2.trans ha, hC2, (fb_put hx (by first | rfl | assumption) (by assumption) (by first | exact andF1 (by assumption) | exact andF2 (by assumption)) (by assumption)).symm.trans hr1⟩
            (case ee => (rw [savedK_some hx, savedV_some hx]; try rfl)))))
    all_goals (dsimp only [WhileStep2])
    all_goals (
      obtain rfl : (hv, n + 1) = r0 := by
        first
        | exact (fb_past hx (by assumption)).symm.trans hr1
        | exact (fb_brk hx (by first | rfl | assumption) (by assumption) (by assumption) (by assumption)).symm.trans hr1
      walk_at "mine steps"
      subst eT
      exact k fp₁ _ _ _ _ _ (by k_asm) (by walk_at "mine news") ha hC)
  | zero =>
    obtain rfl : (hv, 0) = r0 := hr1
    walk_at "mine steps"
    subst eT
    all_goals (exact k fp₁ _ _ _ _ _ (by k_asm) (by walk_at "mine news") ha hC)
end
open PySem PySem.W PyProof.Rows
set_option hygiene false in
local macro_rules | `(tactic| walk_at "mine stepsU") => `(tactic| repeat' (first
  | ((fail_if_success (with_reducible show wpAny _ _ (exec (PySem.Stmt.While _ _ _ _) _) _ _ _)); (fail_if_success (with_reducible show wpAny _ _ (pyIter _) _ _ _)); (fail_if_success (with_reducible show wpAny _ _ (call (Value.ref (Mine.adr _ MN.first)) _) _ _ _)); (fail_if_success (with_reducible show wpAny _ _ (call (Value.ref (Mine.adr _ MN.last)) _) _ _ _)); (fail_if_success (with_reducible show wpAny _ _ (call (Value.ref (Mine.adr _ MN.seek)) _) _ _ _)); (fail_if_success (with_reducible show wpAny _ _ (call (Value.ref (Mine.adr _ MN.step)) _) _ _ _)); (fail_if_success (with_reducible show wpAny _ _ (call (Value.ref (Mine.adr _ MN.back)) _) _ _ _));
     (fail_if_success (with_reducible show wpAny _ _ (call (Value.ref 412) _) _ _ _)); (fail_if_success (with_reducible show wpAny _ _ (call (Value.ref 419) _) _ _ _)); (fail_if_success (with_reducible show wpAny _ _ (call (Value.ref 573) _) _ _ _)); (fail_if_success (with_reducible show wpAny _ _ (call (Value.ref 580) _) _ _ _)); (fail_if_success (with_reducible show wpAny _ _ (call (Value.ref 461) _) _ _ _)); (fail_if_success (with_reducible show wpAny _ _ (call (Value.ref 468) _) _ _ _)); (fail_if_success (with_reducible show wpAny _ _ (call (Value.ref 475) _) _ _ _));
     (first | (k_unfold; (try dsimp only)) | walk1 | (dsimp only; walk1) | (leave1; walk_say "STEP leave1"; (try dsimp only)) | fail "no step"))))
def clampLo (lo : Option (Array UInt8)) (t : Array UInt8) : Array UInt8 := match lo with | none => t | some l => if ltB t l then l else t
def firstPl (R : List Row) (upto : Int) (lo : Option (Array UInt8)) : Option Nat := match lo with | none => firstAt R | some l => seekAt R ⟨l, upto.toNat, 1⟩
def lastLen (R : List Row) (hi : Option (Array UInt8)) : Option Nat := match hi with | none => lastAt R | some h => backOf R (seekAt R ⟨h, 72057594037927935, 1⟩)
def stepPl (R : List Row) (st : Option Nat) : Option Nat := match st with | none => firstAt R | some i => nextAt R i
theorem ok_seek {l : Array UInt8} {upto : Int} (hl : l.size ≤ 1000) (h1 : upto < 72057594037927936) (h0 : 0 ≤ upto) : (⟨l, upto.toNat, 1⟩ : IK).Ok := ⟨by show upto.toNat < _; omega, by show 1 < 256; omega, hl⟩
theorem ok_max {l : Array UInt8} (hl : l.size ≤ 1000) : (⟨l, 72057594037927935, 1⟩ : IK).Ok := ⟨by show 72057594037927935 < _; omega, by show 1 < 256; omega, hl⟩
section
variable {w : World} {dp un : Nat} {gd : Option (List Code)} {cn : Str} {cs : Scope} {a : Addr} {ccd : Value} {cl : List (Str × Addr)} {outer : List Env} {A₀ : Around} {base h₀ : Heap} {L : Addr} {m mg mb : Str → Option Value} {mean : ExcName → Option Value} {s : Shared} {rest : Led}
  {Q E : Value → Shared → Prop} {D : Nat} {C : CurP} {u du inner : Addr} {kd : Bool} {R : List Row} {st : Option Nat} {fpi : Led} {q : UP} {upto going : Int} {lo hi : Option (Array UInt8)} {tg tsk tsv : Tok} {good : Bool} {sk sv : Array UInt8}
set_option maxRecDepth 100000 in
set_option maxHeartbeats 8000000 in
theorem ufirst_r  (B : Below A₀ base outer h₀) (F : Fr h₀ L s.heap m) (X : (Mine.hd.heap_39 w.params).In h₀) (N : News h₀ L s.heap ((du, UD q inner upto lo hi (going) tg good (sk) tsk (sv) tsv) :: (fpi ++ rest))) (T : Top VW (looseW VW []) mean mg mb h₀) (hk : cs.kind = .function) (hd : dp + (D + 10) < recursionLimit) (hu : un + 8 * (D + 10) < cLine)
    (S : CurSpec w D C) (hC : C fpi rest inner kd R st) (offi : Off fpi rest) (offd : ∀ p ∈ fpi ++ rest, p.1 ≠ du) (m1 : (u, instObj 611 du) ∈ rest) (hkd : ∀ x ∈ R, x.1.kind ≤ 1) (hup0 : 0 ≤ upto) (hup1 : upto < 72057594037927936) (hlo : ∀ b, lo = some b → b.size ≤ 1000) (hhi : ∀ b, hi = some b → b.size ≤ 1000) (k : ∀ fp' st' tgb tka tvb h' tk', Fr h₀ L h' m → News h₀ L h' ((du, UD q inner upto lo hi (0) tgb (ffwd hi upto (R.drop (startOf R (firstPl R upto lo))) (startOf R (firstPl R upto lo)) (none)).isSome (#[]) tka (#[]) tvb) :: (fp' ++ rest)) → sameAdr fp' fpi → C fp' rest inner kd R st' → (∀ j, (ffwd hi upto (R.drop (startOf R (firstPl R upto lo))) (startOf R (firstPl R upto lo)) (none)) = some j → st' = some j) → Q (.none) { s with heap := h', toks := tk' }) :
    wpAny (model Challenge.rw_no0415_01.row.prog w) (ktrTop dp un gd cn cs L a ccd cl outer) (call (.ref 552) [.ref u]) Q E s := by
  generalize eT : fpi ++ rest = TT at N
  have q1 : (u, instObj 611 du) ∈ TT := eT ▸ List.mem_append_right _ m1
  have f1 : ∀ p ∈ TT, p.1 ≠ du := eT ▸ offd
  have hT : ∀ p ∈ fpi, p ∈ TT := fun p hp => eT ▸ List.mem_append_left _ hp
  have hCT : C fpi TT inner kd R st := S.mono hC fun p hp => eT ▸ List.mem_append_right _ hp
  walk_at "mine begin"
  walk_at "mine stepsU"
  rename News _ _ _ _ => NN
  rcases lo with _ | lb
  · (try unfold UD at NN); unfold bndV at NN; dsimp only at NN
    walk_at "mine stepsU"
    clear hCT hT f1
    rename News _ _ _ _ => NN
    refine' inner_call (fun h1 h2 => S.first hC h1 h2) offi offd ?B ?F ?X NN ?T ?hk ?hd ?hu ?m ?s ?_
    walk_at "mine std3"
    (case m => (repeat (first | exact List.Mem.head _ | refine List.Mem.tail _ ?_)))
    (case s => (rw [eT]; walk_at "mine sub"))
    clear NN
    intro fp₂ h' tk' F' N' ha2 hC2
    generalize eT2 : fp₂ ++ rest = T2 at N'
    have q9 : (u, instObj 611 du) ∈ T2 := eT2 ▸ List.mem_append_right _ m1
    have f9 : ∀ p ∈ T2, p.1 ≠ du := eT2 ▸ offd_adr offd ha2
    walk_at "mine stepsU"
    subst eT2
    refine' uff_r (q := q) (lo := none) (hi := hi) ?B ?F ?X ?N ?T ?hk ?hd ?hu S hC2 (offi.adr ha2) (offd_adr offd ha2) m1 hkd ?_
    walk_at "mine std"
    clear N'
    intro fp₉ st₉ tka tvb h' tk' F' N' ha₉ hC₉ hst₉
    walk_at "mine steps"
    exact k fp₉ st₉ _ _ _ _ _ (by k_asm) (by walk_at "mine news") (ha₉.trans ha2) hC₉ hst₉
  · (try unfold UD at NN); unfold bndV at NN; dsimp only at NN
    have hlb := hlo lb rfl
    walk_at "mine stepsU"
    clear hCT hT f1
    rename News _ _ _ _ => NN
    refine' inner_call (fun h1 h2 => S.seek hC h1 h2 (ok_seek hlb hup1 hup0)) offi offd ?B ?F ?X NN ?T ?hk ?hd ?hu ?m ?s ?_
    walk_at "mine std3"
    (case m => (repeat (first | exact List.Mem.head _ | refine List.Mem.tail _ ?_)))
    (case s => (rw [eT]; walk_at "mine sub"))
    clear NN
    intro fp₂ h' tk' F' N' ha2 hC2
    generalize eT2 : fp₂ ++ rest = T2 at N'
    have q9 : (u, instObj 611 du) ∈ T2 := eT2 ▸ List.mem_append_right _ m1
    have f9 : ∀ p ∈ T2, p.1 ≠ du := eT2 ▸ offd_adr offd ha2
    walk_at "mine stepsU"
    subst eT2
    refine' uff_r (q := q) (lo := some lb) (hi := hi) ?B ?F ?X ?N ?T ?hk ?hd ?hu S hC2 (offi.adr ha2) (offd_adr offd ha2) m1 hkd ?_
    walk_at "mine std"
    clear N'
    intro fp₉ st₉ tka tvb h' tk' F' N' ha₉ hC₉ hst₉
    walk_at "mine steps"
    exact k fp₉ st₉ _ _ _ _ _ (by k_asm) (by walk_at "mine news") (ha₉.trans ha2) hC₉ hst₉
set_option maxRecDepth 100000 in
set_option maxHeartbeats 8000000 in
theorem useek_r {tgt : Array UInt8} {tt : Tok} (B : Below A₀ base outer h₀) (F : Fr h₀ L s.heap m) (X : (Mine.hd.heap_39 w.params).In h₀) (N : News h₀ L s.heap ((du, UD q inner upto lo hi (going) tg good (sk) tsk (sv) tsv) :: (fpi ++ rest))) (T : Top VW (looseW VW []) mean mg mb h₀) (hk : cs.kind = .function) (hd : dp + (D + 10) < recursionLimit) (hu : un + 8 * (D + 10) < cLine)
    (S : CurSpec w D C) (hC : C fpi rest inner kd R st) (offi : Off fpi rest) (offd : ∀ p ∈ fpi ++ rest, p.1 ≠ du) (m1 : (u, instObj 611 du) ∈ rest) (hkd : ∀ x ∈ R, x.1.kind ≤ 1) (hup0 : 0 ≤ upto) (hup1 : upto < 72057594037927936) (hlo : ∀ b, lo = some b → b.size ≤ 1000) (hhi : ∀ b, hi = some b → b.size ≤ 1000) (htgt : tgt.size ≤ 1000) (k : ∀ fp' st' tgb tka tvb h' tk', Fr h₀ L h' m → News h₀ L h' ((du, UD q inner upto lo hi (0) tgb (ffwd hi upto (R.drop (startOf R (seekAt R ⟨clampLo lo tgt, upto.toNat, 1⟩))) (startOf R (seekAt R ⟨clampLo lo tgt, upto.toNat, 1⟩)) (none)).isSome (#[]) tka (#[]) tvb) :: (fp' ++ rest)) → sameAdr fp' fpi → C fp' rest inner kd R st' → (∀ j, (ffwd hi upto (R.drop (startOf R (seekAt R ⟨clampLo lo tgt, upto.toNat, 1⟩))) (startOf R (seekAt R ⟨clampLo lo tgt, upto.toNat, 1⟩)) (none)) = some j → st' = some j) → Q (.none) { s with heap := h', toks := tk' }) :
    wpAny (model Challenge.rw_no0415_01.row.prog w) (ktrTop dp un gd cn cs L a ccd cl outer) (call (.ref 559) [.ref u, .bytes tgt tt]) Q E s := by
  generalize eT : fpi ++ rest = TT at N
  have q1 : (u, instObj 611 du) ∈ TT := eT ▸ List.mem_append_right _ m1
  have f1 : ∀ p ∈ TT, p.1 ≠ du := eT ▸ offd
  have hT : ∀ p ∈ fpi, p ∈ TT := fun p hp => eT ▸ List.mem_append_left _ hp
  have hCT : C fpi TT inner kd R st := S.mono hC fun p hp => eT ▸ List.mem_append_right _ hp
  walk_at "mine begin"
  walk_at "mine stepsU"
  rename News _ _ _ _ => NN
  rcases lo with _ | lb
  · (try unfold UD at NN); unfold bndV at NN; dsimp only at NN
    walk_at "mine stepsU"
    clear hCT hT f1
    rename News _ _ _ _ => NN
    refine' inner_call (fun h1 h2 => S.seek hC h1 h2 (ok_seek htgt hup1 hup0)) offi offd ?B ?F ?X NN ?T ?hk ?hd ?hu ?m ?s ?_
    walk_at "mine std3"
    (case m => (repeat (first | exact List.Mem.head _ | refine List.Mem.tail _ ?_)))
    (case s => (rw [eT]; walk_at "mine sub"))
    clear NN
    intro fp₂ h' tk' F' N' ha2 hC2
    generalize eT2 : fp₂ ++ rest = T2 at N'
    have q9 : (u, instObj 611 du) ∈ T2 := eT2 ▸ List.mem_append_right _ m1
    have f9 : ∀ p ∈ T2, p.1 ≠ du := eT2 ▸ offd_adr offd ha2
    walk_at "mine stepsU"
    subst eT2
    refine' uff_r (q := q) (lo := none) (hi := hi) ?B ?F ?X ?N ?T ?hk ?hd ?hu S hC2 (offi.adr ha2) (offd_adr offd ha2) m1 hkd ?_
    walk_at "mine std"
    clear N'
    intro fp₉ st₉ tka tvb h' tk' F' N' ha₉ hC₉ hst₉
    walk_at "mine steps"
    exact k fp₉ st₉ _ _ _ _ _ (by k_asm) (by walk_at "mine news") (ha₉.trans ha2) hC₉ hst₉
  · (try unfold UD at NN); unfold bndV at NN; dsimp only at NN
    have hlb := hlo lb rfl
    walk_at "mine stepsU"
    · have hlt : ltB tgt lb = true := by assumption
      have hcl : clampLo (some lb) tgt = lb := by unfold clampLo; simp only; rw [if_pos hlt]
      rw [hcl] at k
      clear hCT hT f1
      rename News _ _ _ _ => NN
      refine' inner_call (fun h1 h2 => S.seek hC h1 h2 (ok_seek hlb hup1 hup0)) offi offd ?B ?F ?X NN ?T ?hk ?hd ?hu ?m ?s ?_
      walk_at "mine std3"
      (case m => (repeat (first | exact List.Mem.head _ | refine List.Mem.tail _ ?_)))
      (case s => (rw [eT]; walk_at "mine sub"))
      clear NN
      intro fp₂ h' tk' F' N' ha2 hC2
      generalize eT2 : fp₂ ++ rest = T2 at N'
      have q9 : (u, instObj 611 du) ∈ T2 := eT2 ▸ List.mem_append_right _ m1
      have f9 : ∀ p ∈ T2, p.1 ≠ du := eT2 ▸ offd_adr offd ha2
      walk_at "mine stepsU"
      subst eT2
      refine' uff_r (q := q) (lo := some lb) (hi := hi) ?B ?F ?X ?N ?T ?hk ?hd ?hu S hC2 (offi.adr ha2) (offd_adr offd ha2) m1 hkd ?_
      walk_at "mine std"
      clear N'
      intro fp₉ st₉ tka tvb h' tk' F' N' ha₉ hC₉ hst₉
      walk_at "mine steps"
      exact k fp₉ st₉ _ _ _ _ _ (by k_asm) (by walk_at "mine news") (ha₉.trans ha2) hC₉ hst₉
    · have hlt : ltB tgt lb = false := by assumption
      have hcl : clampLo (some lb) tgt = tgt := by unfold clampLo; simp only; rw [if_neg (by rw [hlt]; decide)]
      rw [hcl] at k
      clear hCT hT f1
      rename News _ _ _ _ => NN
      refine' inner_call (fun h1 h2 => S.seek hC h1 h2 (ok_seek htgt hup1 hup0)) offi offd ?B ?F ?X NN ?T ?hk ?hd ?hu ?m ?s ?_
      walk_at "mine std3"
      (case m => (repeat (first | exact List.Mem.head _ | refine List.Mem.tail _ ?_)))
      (case s => (rw [eT]; walk_at "mine sub"))
      clear NN
      intro fp₂ h' tk' F' N' ha2 hC2
      generalize eT2 : fp₂ ++ rest = T2 at N'
      have q9 : (u, instObj 611 du) ∈ T2 := eT2 ▸ List.mem_append_right _ m1
      have f9 : ∀ p ∈ T2, p.1 ≠ du := eT2 ▸ offd_adr offd ha2
      walk_at "mine stepsU"
      subst eT2
      refine' uff_r (q := q) (lo := some lb) (hi := hi) ?B ?F ?X ?N ?T ?hk ?hd ?hu S hC2 (offi.adr ha2) (offd_adr offd ha2) m1 hkd ?_
      walk_at "mine std"
      clear N'
      intro fp₉ st₉ tka tvb h' tk' F' N' ha₉ hC₉ hst₉
      walk_at "mine steps"
      exact k fp₉ st₉ _ _ _ _ _ (by k_asm) (by walk_at "mine news") (ha₉.trans ha2) hC₉ hst₉
set_option maxRecDepth 100000 in
set_option maxHeartbeats 8000000 in
theorem uvalid_r  (B : Below A₀ base outer h₀) (F : Fr h₀ L s.heap m) (X : (Mine.hd.heap_39 w.params).In h₀) (N : News h₀ L s.heap ((du, UD q inner upto lo hi (going) tg good (sk) tsk (sv) tsv) :: (fpi ++ rest))) (T : Top VW (looseW VW []) mean mg mb h₀) (hk : cs.kind = .function) (hd : dp + (D + 1) < recursionLimit) (hu : un + 8 * (D + 1) < cLine)
    (m1 : (u, instObj 611 du) ∈ fpi ++ rest) (k : ∀ h' tk', Fr h₀ L h' m → News h₀ L h' ((du, UD q inner upto lo hi (going) tg good (sk) tsk (sv) tsv) :: (fpi ++ rest)) → Q (.bool good) { s with heap := h', toks := tk' }) :
    wpAny (model Challenge.rw_no0415_01.row.prog w) (ktrTop dp un gd cn cs L a ccd cl outer) (call (.ref 531) [.ref u]) Q E s := by
  walk_at "mine begin"
  walk_at "mine steps"
  all_goals (exact k _ _ (by k_asm) (by walk_at "mine news"))
set_option maxRecDepth 100000 in
set_option maxHeartbeats 8000000 in
theorem ukey1_r  (B : Below A₀ base outer h₀) (F : Fr h₀ L s.heap m) (X : (Mine.hd.heap_39 w.params).In h₀) (N : News h₀ L s.heap ((du, UD q inner upto lo hi (1) tg true (sk) tsk (sv) tsv) :: (fpi ++ rest))) (T : Top VW (looseW VW []) mean mg mb h₀) (hk : cs.kind = .function) (hd : dp + (D + 2) < recursionLimit) (hu : un + 8 * (D + 2) < cLine)
    (m1 : (u, instObj 611 du) ∈ fpi ++ rest) (k : ∀ t' h' tk', Fr h₀ L h' m → News h₀ L h' ((du, UD q inner upto lo hi (1) tg true (sk) tsk (sv) tsv) :: (fpi ++ rest)) → Q (.bytes sk t') { s with heap := h', toks := tk' }) :
    wpAny (model Challenge.rw_no0415_01.row.prog w) (ktrTop dp un gd cn cs L a ccd cl outer) (call (.ref 601) [.ref u]) Q E s := by
  walk_at "mine begin"
  walk_at "mine steps"
  all_goals (exact k _ _ _ (by k_asm) (by walk_at "mine news"))
set_option maxRecDepth 100000 in
set_option maxHeartbeats 8000000 in
theorem ukey0_r {j : Nat} {x : Row} (B : Below A₀ base outer h₀) (F : Fr h₀ L s.heap m) (X : (Mine.hd.heap_39 w.params).In h₀) (N : News h₀ L s.heap ((du, UD q inner upto lo hi (0) tg true (sk) tsk (sv) tsv) :: (fpi ++ rest))) (T : Top VW (looseW VW []) mean mg mb h₀) (hk : cs.kind = .function) (hd : dp + (D + 4) < recursionLimit) (hu : un + 8 * (D + 4) < cLine)
    (S : CurSpec w D C) (hC : C fpi rest inner kd R (some j)) (m1 : (u, instObj 611 du) ∈ rest) (hx : R[j]? = some x) (k : ∀ t' h' tk', Fr h₀ L h' m → News h₀ L h' ((du, UD q inner upto lo hi (0) tg true (sk) tsk (sv) tsv) :: (fpi ++ rest)) → Q (.bytes x.1.u t') { s with heap := h', toks := tk' }) :
    wpAny (model Challenge.rw_no0415_01.row.prog w) (ktrTop dp un gd cn cs L a ccd cl outer) (call (.ref 601) [.ref u]) Q E s := by
  have hxo : x.1.Ok := S.ok hC _ (List.mem_of_getElem? hx)
  generalize eT : fpi ++ rest = TT at *
  have q1 : (u, instObj 611 du) ∈ TT := eT ▸ List.mem_append_right _ m1
  have hT : ∀ p ∈ fpi, p ∈ TT := fun p hp => eT ▸ List.mem_append_left _ hp
  have hCT : C fpi TT inner kd R (some j) := S.mono hC fun p hp => eT ▸ List.mem_append_right _ hp
  walk_at "mine begin"
  walk_at "mine steps"
  all_goals (exact k _ _ _ (by k_asm) (by walk_at "mine news"))
set_option maxRecDepth 100000 in
set_option maxHeartbeats 8000000 in
theorem uvalue1_r  (B : Below A₀ base outer h₀) (F : Fr h₀ L s.heap m) (X : (Mine.hd.heap_39 w.params).In h₀) (N : News h₀ L s.heap ((du, UD q inner upto lo hi (1) tg true (sk) tsk (sv) tsv) :: (fpi ++ rest))) (T : Top VW (looseW VW []) mean mg mb h₀) (hk : cs.kind = .function) (hd : dp + (D + 2) < recursionLimit) (hu : un + 8 * (D + 2) < cLine)
    (m1 : (u, instObj 611 du) ∈ fpi ++ rest) (k : ∀ t' h' tk', Fr h₀ L h' m → News h₀ L h' ((du, UD q inner upto lo hi (1) tg true (sk) tsk (sv) tsv) :: (fpi ++ rest)) → Q (.bytes sv t') { s with heap := h', toks := tk' }) :
    wpAny (model Challenge.rw_no0415_01.row.prog w) (ktrTop dp un gd cn cs L a ccd cl outer) (call (.ref 608) [.ref u]) Q E s := by
  walk_at "mine begin"
  walk_at "mine steps"
  all_goals (exact k _ _ _ (by k_asm) (by walk_at "mine news"))
set_option maxRecDepth 100000 in
set_option maxHeartbeats 8000000 in
theorem uvalue0_r {j : Nat} {x : Row} (B : Below A₀ base outer h₀) (F : Fr h₀ L s.heap m) (X : (Mine.hd.heap_39 w.params).In h₀) (N : News h₀ L s.heap ((du, UD q inner upto lo hi (0) tg true (sk) tsk (sv) tsv) :: (fpi ++ rest))) (T : Top VW (looseW VW []) mean mg mb h₀) (hk : cs.kind = .function) (hd : dp + (D + 4) < recursionLimit) (hu : un + 8 * (D + 4) < cLine)
    (S : CurSpec w D C) (hC : C fpi rest inner kd R (some j)) (m1 : (u, instObj 611 du) ∈ rest) (hx : R[j]? = some x) (k : ∀ t' h' tk', Fr h₀ L h' m → News h₀ L h' ((du, UD q inner upto lo hi (0) tg true (sk) tsk (sv) tsv) :: (fpi ++ rest)) → Q (.bytes x.2 t') { s with heap := h', toks := tk' }) :
    wpAny (model Challenge.rw_no0415_01.row.prog w) (ktrTop dp un gd cn cs L a ccd cl outer) (call (.ref 608) [.ref u]) Q E s := by
  have hxo : x.1.Ok := S.ok hC _ (List.mem_of_getElem? hx)
  generalize eT : fpi ++ rest = TT at *
  have q1 : (u, instObj 611 du) ∈ TT := eT ▸ List.mem_append_right _ m1
  have hT : ∀ p ∈ fpi, p ∈ TT := fun p hp => eT ▸ List.mem_append_left _ hp
  have hCT : C fpi TT inner kd R (some j) := S.mono hC fun p hp => eT ▸ List.mem_append_right _ hp
  walk_at "mine begin"
  walk_at "mine steps"
  all_goals (exact k _ _ _ (by k_asm) (by walk_at "mine news"))
end
open PySem PySem.W PyProof.Rows
section
variable {w : World} {dp un : Nat} {gd : Option (List Code)} {cn : Str} {cs : Scope} {a : Addr} {ccd : Value} {cl : List (Str × Addr)} {outer : List Env} {A₀ : Around} {base h₀ : Heap} {L : Addr} {m mg mb : Str → Option Value} {mean : ExcName → Option Value} {s : Shared} {rest : Led}
  {Q E : Value → Shared → Prop} {D : Nat} {C : CurP} {u du inner : Addr} {kd : Bool} {R : List Row} {st : Option Nat} {fpi : Led} {q : UP} {upto going : Int} {lo hi : Option (Array UInt8)} {tg tsk tsv : Tok} {good : Bool} {sk sv : Array UInt8}
set_option maxRecDepth 100000 in
set_option maxHeartbeats 8000000 in
theorem ustep0_r {j : Nat} {x : Row} (B : Below A₀ base outer h₀) (F : Fr h₀ L s.heap m) (X : (Mine.hd.heap_39 w.params).In h₀) (N : News h₀ L s.heap ((du, UD q inner upto lo hi (0) tg true (sk) tsk (sv) tsv) :: (fpi ++ rest))) (T : Top VW (looseW VW []) mean mg mb h₀) (hk : cs.kind = .function) (hd : dp + (D + 10) < recursionLimit) (hu : un + 8 * (D + 10) < cLine)
    (S : CurSpec w D C) (hC : C fpi rest inner kd R (some j)) (offi : Off fpi rest) (offd : ∀ p ∈ fpi ++ rest, p.1 ≠ du) (m1 : (u, instObj 611 du) ∈ rest) (hkd : ∀ x ∈ R, x.1.kind ≤ 1) (hup0 : 0 ≤ upto) (hup1 : upto < 72057594037927936) (hlo : ∀ b, lo = some b → b.size ≤ 1000) (hhi : ∀ b, hi = some b → b.size ≤ 1000) (hx : R[j]? = some x) (k : ∀ fp' st' tgb tka tvb h' tk', Fr h₀ L h' m → News h₀ L h' ((du, UD q inner upto lo hi (0) tgb (ffwd hi upto (R.drop (startOf R (nextAt R j))) (startOf R (nextAt R j)) (some x.1.u)).isSome (#[]) tka (#[]) tvb) :: (fp' ++ rest)) → sameAdr fp' fpi → C fp' rest inner kd R st' → (∀ jj, (ffwd hi upto (R.drop (startOf R (nextAt R j))) (startOf R (nextAt R j)) (some x.1.u)) = some jj → st' = some jj) → Q (.none) { s with heap := h', toks := tk' }) :
    wpAny (model Challenge.rw_no0415_01.row.prog w) (ktrTop dp un gd cn cs L a ccd cl outer) (call (.ref 587) [.ref u]) Q E s := by
  have hxo : x.1.Ok := S.ok hC _ (List.mem_of_getElem? hx)
  generalize eT : fpi ++ rest = TT at N
  have q1 : (u, instObj 611 du) ∈ TT := eT ▸ List.mem_append_right _ m1
  have f1 : ∀ p ∈ TT, p.1 ≠ du := eT ▸ offd
  have hT : ∀ p ∈ fpi, p ∈ TT := fun p hp => eT ▸ List.mem_append_left _ hp
  have hCT : C fpi TT inner kd R (some j) := S.mono hC fun p hp => eT ▸ List.mem_append_right _ hp
  walk_at "mine begin"
  walk_at "mine stepsU"
  clear hCT hT f1
  rename News _ _ _ _ => NN
  refine' inner_call (fun h1 h2 => S.step hC h1 h2) offi offd ?B ?F ?X NN ?T ?hk ?hd ?hu ?m ?s ?_
  walk_at "mine std3"
  (case m => (repeat (first | exact List.Mem.head _ | refine List.Mem.tail _ ?_)))
  (case s => (rw [eT]; walk_at "mine sub"))
  clear NN
  intro fp₂ h' tk' F' N' ha2 hC2
  generalize eT2 : fp₂ ++ rest = T2 at N'
  have q9 : (u, instObj 611 du) ∈ T2 := eT2 ▸ List.mem_append_right _ m1
  have f9 : ∀ p ∈ T2, p.1 ≠ du := eT2 ▸ offd_adr offd ha2
  walk_at "mine stepsU"
  subst eT2
  refine' uff_r (q := q) (lo := lo) (hi := hi) ?B ?F ?X ?N ?T ?hk ?hd ?hu S hC2 (offi.adr ha2) (offd_adr offd ha2) m1 hkd ?_
  walk_at "mine std"
  clear N'
  intro fp₉ st₉ tka tvb h' tk' F' N' ha₉ hC₉ hst₉
  walk_at "mine steps"
  exact k fp₉ st₉ _ _ _ _ _ (by k_asm) (by walk_at "mine news") (ha₉.trans ha2) hC₉ hst₉
set_option maxRecDepth 100000 in
set_option maxHeartbeats 8000000 in
theorem ustep1_r  (B : Below A₀ base outer h₀) (F : Fr h₀ L s.heap m) (X : (Mine.hd.heap_39 w.params).In h₀) (N : News h₀ L s.heap ((du, UD q inner upto lo hi (1) tg true (sk) tsk (sv) tsv) :: (fpi ++ rest))) (T : Top VW (looseW VW []) mean mg mb h₀) (hk : cs.kind = .function) (hd : dp + (D + 10) < recursionLimit) (hu : un + 8 * (D + 10) < cLine)
    (S : CurSpec w D C) (hC : C fpi rest inner kd R st) (offi : Off fpi rest) (offd : ∀ p ∈ fpi ++ rest, p.1 ≠ du) (m1 : (u, instObj 611 du) ∈ rest) (hkd : ∀ x ∈ R, x.1.kind ≤ 1) (hup0 : 0 ≤ upto) (hup1 : upto < 72057594037927936) (hlo : ∀ b, lo = some b → b.size ≤ 1000) (hhi : ∀ b, hi = some b → b.size ≤ 1000) (k : ∀ fp' st' tgb tka tvb h' tk', Fr h₀ L h' m → News h₀ L h' ((du, UD q inner upto lo hi (0) tgb (ffwd hi upto (R.drop (startOf R (stepPl R st))) (startOf R (stepPl R st)) (some sk)).isSome (#[]) tka (#[]) tvb) :: (fp' ++ rest)) → sameAdr fp' fpi → C fp' rest inner kd R st' → (∀ jj, (ffwd hi upto (R.drop (startOf R (stepPl R st))) (startOf R (stepPl R st)) (some sk)) = some jj → st' = some jj) → Q (.none) { s with heap := h', toks := tk' }) :
    wpAny (model Challenge.rw_no0415_01.row.prog w) (ktrTop dp un gd cn cs L a ccd cl outer) (call (.ref 587) [.ref u]) Q E s := by
  rcases st with _ | j
  · have hst : stepPl R none = firstAt R := rfl
    rw [hst] at k
    generalize eT : fpi ++ rest = TT at N
    have q1 : (u, instObj 611 du) ∈ TT := eT ▸ List.mem_append_right _ m1
    have f1 : ∀ p ∈ TT, p.1 ≠ du := eT ▸ offd
    have hT : ∀ p ∈ fpi, p ∈ TT := fun p hp => eT ▸ List.mem_append_left _ hp
    have hCT : C fpi TT inner kd R none := S.mono hC fun p hp => eT ▸ List.mem_append_right _ hp
    walk_at "mine begin"
    walk_at "mine stepsU"
    clear hCT hT f1
    rename News _ _ _ _ => NN
    refine' inner_call (fun h1 h2 => S.first hC h1 h2) offi offd ?B ?F ?X NN ?T ?hk ?hd ?hu ?m ?s ?_
    walk_at "mine std3"
    (case m => (repeat (first | exact List.Mem.head _ | refine List.Mem.tail _ ?_)))
    (case s => (rw [eT]; walk_at "mine sub"))
    clear NN
    intro fp₂ h' tk' F' N' ha2 hC2
    generalize eT2 : fp₂ ++ rest = T2 at N'
    have q9 : (u, instObj 611 du) ∈ T2 := eT2 ▸ List.mem_append_right _ m1
    have f9 : ∀ p ∈ T2, p.1 ≠ du := eT2 ▸ offd_adr offd ha2
    walk_at "mine stepsU"
    subst eT2
    refine' uff_r (q := q) (lo := lo) (hi := hi) ?B ?F ?X ?N ?T ?hk ?hd ?hu S hC2 (offi.adr ha2) (offd_adr offd ha2) m1 hkd ?_
    walk_at "mine std"
    clear N'
    intro fp₉ st₉ tka tvb h' tk' F' N' ha₉ hC₉ hst₉
    walk_at "mine steps"
    exact k fp₉ st₉ _ _ _ _ _ (by k_asm) (by walk_at "mine news") (ha₉.trans ha2) hC₉ hst₉
  · have hst : stepPl R (some j) = nextAt R j := rfl
    rw [hst] at k
    generalize eT : fpi ++ rest = TT at N
    have q1 : (u, instObj 611 du) ∈ TT := eT ▸ List.mem_append_right _ m1
    have f1 : ∀ p ∈ TT, p.1 ≠ du := eT ▸ offd
    have hT : ∀ p ∈ fpi, p ∈ TT := fun p hp => eT ▸ List.mem_append_left _ hp
    have hCT : C fpi TT inner kd R (some j) := S.mono hC fun p hp => eT ▸ List.mem_append_right _ hp
    walk_at "mine begin"
    walk_at "mine stepsU"
    clear hCT hT f1
    rename News _ _ _ _ => NN
    refine' inner_call (fun h1 h2 => S.step hC h1 h2) offi offd ?B ?F ?X NN ?T ?hk ?hd ?hu ?m ?s ?_
    walk_at "mine std3"
    (case m => (repeat (first | exact List.Mem.head _ | refine List.Mem.tail _ ?_)))
    (case s => (rw [eT]; walk_at "mine sub"))
    clear NN
    intro fp₂ h' tk' F' N' ha2 hC2
    generalize eT2 : fp₂ ++ rest = T2 at N'
    have q9 : (u, instObj 611 du) ∈ T2 := eT2 ▸ List.mem_append_right _ m1
    have f9 : ∀ p ∈ T2, p.1 ≠ du := eT2 ▸ offd_adr offd ha2
    walk_at "mine stepsU"
    subst eT2
    refine' uff_r (q := q) (lo := lo) (hi := hi) ?B ?F ?X ?N ?T ?hk ?hd ?hu S hC2 (offi.adr ha2) (offd_adr offd ha2) m1 hkd ?_
    walk_at "mine std"
    clear N'
    intro fp₉ st₉ tka tvb h' tk' F' N' ha₉ hC₉ hst₉
    walk_at "mine steps"
    exact k fp₉ st₉ _ _ _ _ _ (by k_asm) (by walk_at "mine news") (ha₉.trans ha2) hC₉ hst₉
set_option maxRecDepth 100000 in
set_option maxHeartbeats 8000000 in
theorem uback1_r  (B : Below A₀ base outer h₀) (F : Fr h₀ L s.heap m) (X : (Mine.hd.heap_39 w.params).In h₀) (N : News h₀ L s.heap ((du, UD q inner upto lo hi (1) tg true (sk) tsk (sv) tsv) :: (fpi ++ rest))) (T : Top VW (looseW VW []) mean mg mb h₀) (hk : cs.kind = .function) (hd : dp + (D + 10) < recursionLimit) (hu : un + 8 * (D + 10) < cLine)
    (S : CurSpec w D C) (hC : C fpi rest inner kd R st) (offi : Off fpi rest) (offd : ∀ p ∈ fpi ++ rest, p.1 ≠ du) (m1 : (u, instObj 611 du) ∈ rest) (hkd : ∀ x ∈ R, x.1.kind ≤ 1) (hup0 : 0 ≤ upto) (hup1 : upto < 72057594037927936) (hlo : ∀ b, lo = some b → b.size ≤ 1000) (hhi : ∀ b, hi = some b → b.size ≤ 1000) (k : ∀ fp' tgb tka tvb h' tk', Fr h₀ L h' m → News h₀ L h' ((du, UD q inner upto lo hi (1) tgb (fbwd lo upto R (lenOf st) none).1.isSome (savedK R (fbwd lo upto R (lenOf st) none).1) tka (savedV R (fbwd lo upto R (lenOf st) none).1) tvb) :: (fp' ++ rest)) → sameAdr fp' fpi → C fp' rest inner kd R (befOf (fbwd lo upto R (lenOf st) none).2) → Q (.none) { s with heap := h', toks := tk' }) :
    wpAny (model Challenge.rw_no0415_01.row.prog w) (ktrTop dp un gd cn cs L a ccd cl outer) (call (.ref 594) [.ref u]) Q E s := by
  generalize eT : fpi ++ rest = TT at N
  have q1 : (u, instObj 611 du) ∈ TT := eT ▸ List.mem_append_right _ m1
  have f1 : ∀ p ∈ TT, p.1 ≠ du := eT ▸ offd
  have hT : ∀ p ∈ fpi, p ∈ TT := fun p hp => eT ▸ List.mem_append_left _ hp
  have hCT : C fpi TT inner kd R st := S.mono hC fun p hp => eT ▸ List.mem_append_right _ hp
  walk_at "mine begin"
  walk_at "mine stepsU"
  subst eT
  refine' ufb_r (q := q) (lo := lo) (hi := hi) ?B ?F ?X ?N ?T ?hk ?hd ?hu S hC offi offd m1 hkd ?_
  walk_at "mine std"
  intro fp₉ tg₉ tka tvb h' tk' F' N' ha₉ hC₉
  walk_at "mine steps"
  exact k fp₉ _ _ _ _ _ (by k_asm) (by walk_at "mine news") ha₉ hC₉
end
open PySem PySem.W PyProof.Rows
section
variable {w : World} {dp un : Nat} {gd : Option (List Code)} {cn : Str} {cs : Scope} {a : Addr} {ccd : Value} {cl : List (Str × Addr)} {outer : List Env} {A₀ : Around} {base h₀ : Heap} {L : Addr} {m mg mb : Str → Option Value} {mean : ExcName → Option Value} {s : Shared} {rest : Led}
  {Q E : Value → Shared → Prop} {D : Nat} {C : CurP} {u du inner : Addr} {kd : Bool} {R : List Row} {st : Option Nat} {fpi : Led} {q : UP} {upto going : Int} {lo hi : Option (Array UInt8)} {tg tsk tsv : Tok} {good : Bool} {sk sv : Array UInt8}
set_option maxRecDepth 100000 in
set_option maxHeartbeats 8000000 in
theorem ulast_r  (B : Below A₀ base outer h₀) (F : Fr h₀ L s.heap m) (X : (Mine.hd.heap_39 w.params).In h₀) (N : News h₀ L s.heap ((du, UD q inner upto lo hi (going) tg good (sk) tsk (sv) tsv) :: (fpi ++ rest))) (T : Top VW (looseW VW []) mean mg mb h₀) (hk : cs.kind = .function) (hd : dp + (D + 10) < recursionLimit) (hu : un + 8 * (D + 10) < cLine)
    (S : CurSpec w D C) (hC : C fpi rest inner kd R st) (offi : Off fpi rest) (offd : ∀ p ∈ fpi ++ rest, p.1 ≠ du) (m1 : (u, instObj 611 du) ∈ rest) (hkd : ∀ x ∈ R, x.1.kind ≤ 1) (hup0 : 0 ≤ upto) (hup1 : upto < 72057594037927936) (hlo : ∀ b, lo = some b → b.size ≤ 1000) (hhi : ∀ b, hi = some b → b.size ≤ 1000) (k : ∀ fp' tgb tka tvb h' tk', Fr h₀ L h' m → News h₀ L h' ((du, UD q inner upto lo hi (1) tgb (fbwd lo upto R (lenOf (lastLen R hi)) none).1.isSome (savedK R (fbwd lo upto R (lenOf (lastLen R hi)) none).1) tka (savedV R (fbwd lo upto R (lenOf (lastLen R hi)) none).1) tvb) :: (fp' ++ rest)) → sameAdr fp' fpi → C fp' rest inner kd R (befOf (fbwd lo upto R (lenOf (lastLen R hi)) none).2) → Q (.none) { s with heap := h', toks := tk' }) :
    wpAny (model Challenge.rw_no0415_01.row.prog w) (ktrTop dp un gd cn cs L a ccd cl outer) (call (.ref 566) [.ref u]) Q E s := by
  generalize eT : fpi ++ rest = TT at N
  have q1 : (u, instObj 611 du) ∈ TT := eT ▸ List.mem_append_right _ m1
  have f1 : ∀ p ∈ TT, p.1 ≠ du := eT ▸ offd
  have hT : ∀ p ∈ fpi, p ∈ TT := fun p hp => eT ▸ List.mem_append_left _ hp
  have hCT : C fpi TT inner kd R st := S.mono hC fun p hp => eT ▸ List.mem_append_right _ hp
  walk_at "mine begin"
  walk_at "mine stepsU"
  rename News _ _ _ _ => NN
  rcases hi with _ | hb
  · (try unfold UD at NN); unfold bndV at NN; dsimp only at NN
    walk_at "mine stepsU"
    clear hCT hT f1
    rename News _ _ _ _ => NN
    refine' inner_call (fun h1 h2 => S.last hC h1 h2) offi offd ?B ?F ?X NN ?T ?hk ?hd ?hu ?m ?s ?_
    walk_at "mine std3"
    (case m => (repeat (first | exact List.Mem.head _ | refine List.Mem.tail _ ?_)))
    (case s => (rw [eT]; walk_at "mine sub"))
    clear NN
    intro fp₂ h' tk' F' N' ha2 hC2
    generalize eT2 : fp₂ ++ rest = T2 at N'
    have q9 : (u, instObj 611 du) ∈ T2 := eT2 ▸ List.mem_append_right _ m1
    have f9 : ∀ p ∈ T2, p.1 ≠ du := eT2 ▸ offd_adr offd ha2
    walk_at "mine stepsU"
    subst eT2
    refine' ufb_r (q := q) (lo := lo) (hi := none) ?B ?F ?X ?N ?T ?hk ?hd ?hu S hC2 (offi.adr ha2) (offd_adr offd ha2) m1 hkd ?_
    walk_at "mine std"
    clear N'
    intro fp₉ tg₉ tka tvb h' tk' F' N' ha₉ hC₉
    walk_at "mine steps"
    exact k fp₉ _ _ _ _ _ (by k_asm) (by walk_at "mine news") (ha₉.trans ha2) hC₉
  · (try unfold UD at NN); unfold bndV at NN; dsimp only at NN
    have hlb := hhi hb rfl
    walk_at "mine stepsU"
    clear hCT hT f1
    have hok := ok_max hlb
    have hll : lastLen R (some hb) = backOf R (seekAt R ⟨hb, 72057594037927935, 1⟩) := rfl
    rw [hll] at k
    rename News _ _ _ _ => NN
    refine' inner_call (fun h1 h2 => S.seek (t := _) hC h1 h2 hok) offi offd ?B ?F ?X NN ?T ?hk ?hd ?hu ?m ?s ?_
    walk_at "mine std3"
    (case m => (repeat (first | exact List.Mem.head _ | refine List.Mem.tail _ ?_)))
    (case s => (rw [eT]; walk_at "mine sub"))
    clear NN
    intro fp₂ h' tk' F' N' ha2 hC2
    have hC2 : C fp₂ rest inner kd R (seekAt R ⟨hb, 72057594037927935, 1⟩) := hC2
    generalize seekAt R ⟨hb, 72057594037927935, 1⟩ = st1 at k hC2
    cases st1 with
    | some j =>
      generalize eT2 : fp₂ ++ rest = T2 at N'
      have q82 : (u, instObj 611 du) ∈ T2 := eT2 ▸ List.mem_append_right _ m1
      have f82 : ∀ p ∈ T2, p.1 ≠ du := eT2 ▸ offd_adr offd ha2
      have hT : ∀ p ∈ fp₂, p ∈ T2 := fun p hp => eT2 ▸ List.mem_append_left _ hp
      have hCT : C fp₂ T2 inner kd R (some j) := S.mono hC2 fun p hp => eT2 ▸ List.mem_append_right _ hp
      walk_at "mine stepsU"
      clear hCT hT f82
      rename News _ _ _ _ => NN
      refine' inner_call (fun h1 h2 => S.back hC2 h1 h2) (offi.adr ha2) (offd_adr offd ha2) ?B ?F ?X NN ?T ?hk ?hd ?hu ?m ?s ?_
      walk_at "mine std3"
      (case m => (repeat (first | exact List.Mem.head _ | refine List.Mem.tail _ ?_)))
      (case s => (rw [eT2]; walk_at "mine sub"))
      clear NN
      intro fp₃ h' tk' F' N' ha3 hC3
      have ha4 : sameAdr fp₃ fpi := ha3.trans ha2
      generalize eT4 : fp₃ ++ rest = T4 at N'
      have q9 : (u, instObj 611 du) ∈ T4 := eT4 ▸ List.mem_append_right _ m1
      have f9 : ∀ p ∈ T4, p.1 ≠ du := eT4 ▸ offd_adr offd ha4
      walk_at "mine stepsU"
      subst eT4
      refine' ufb_r (q := q) (lo := lo) (hi := some hb) ?B ?F ?X ?N ?T ?hk ?hd ?hu S hC3 (offi.adr ha4) (offd_adr offd ha4) m1 hkd ?_
      walk_at "mine std"
      clear N'
      intro fp₉ tg₉ tka tvb h' tk' F' N' ha₉ hC₉
      walk_at "mine steps"
      exact k fp₉ _ _ _ _ _ (by k_asm) (by walk_at "mine news") (ha₉.trans ha4) hC₉
    | none =>
      generalize eT2 : fp₂ ++ rest = T2 at N'
      have q82 : (u, instObj 611 du) ∈ T2 := eT2 ▸ List.mem_append_right _ m1
      have f82 : ∀ p ∈ T2, p.1 ≠ du := eT2 ▸ offd_adr offd ha2
      have hT : ∀ p ∈ fp₂, p ∈ T2 := fun p hp => eT2 ▸ List.mem_append_left _ hp
      have hCT : C fp₂ T2 inner kd R none := S.mono hC2 fun p hp => eT2 ▸ List.mem_append_right _ hp
      walk_at "mine stepsU"
      clear hCT hT f82
      rename News _ _ _ _ => NN
      refine' inner_call (fun h1 h2 => S.last hC2 h1 h2) (offi.adr ha2) (offd_adr offd ha2) ?B ?F ?X NN ?T ?hk ?hd ?hu ?m ?s ?_
      walk_at "mine std3"
      (case m => (repeat (first | exact List.Mem.head _ | refine List.Mem.tail _ ?_)))
      (case s => (rw [eT2]; walk_at "mine sub"))
      clear NN
      intro fp₃ h' tk' F' N' ha3 hC3
      have ha4 : sameAdr fp₃ fpi := ha3.trans ha2
      generalize eT4 : fp₃ ++ rest = T4 at N'
      have q9 : (u, instObj 611 du) ∈ T4 := eT4 ▸ List.mem_append_right _ m1
      have f9 : ∀ p ∈ T4, p.1 ≠ du := eT4 ▸ offd_adr offd ha4
      walk_at "mine stepsU"
      subst eT4
      refine' ufb_r (q := q) (lo := lo) (hi := some hb) ?B ?F ?X ?N ?T ?hk ?hd ?hu S hC3 (offi.adr ha4) (offd_adr offd ha4) m1 hkd ?_
      walk_at "mine std"
      clear N'
      intro fp₉ tg₉ tka tvb h' tk' F' N' ha₉ hC₉
      walk_at "mine steps"
      exact k fp₉ _ _ _ _ _ (by k_asm) (by walk_at "mine news") (ha₉.trans ha4) hC₉
set_option maxRecDepth 100000 in
set_option maxHeartbeats 8000000 in
theorem uback0_r {j : Nat} {x : Row} (B : Below A₀ base outer h₀) (F : Fr h₀ L s.heap m) (X : (Mine.hd.heap_39 w.params).In h₀) (N : News h₀ L s.heap ((du, UD q inner upto lo hi (0) tg true (sk) tsk (sv) tsv) :: (fpi ++ rest))) (T : Top VW (looseW VW []) mean mg mb h₀) (hk : cs.kind = .function) (hd : dp + (D + 10) < recursionLimit) (hu : un + 8 * (D + 10) < cLine)
    (S : CurSpec w D C) (hC : C fpi rest inner kd R (some j)) (offi : Off fpi rest) (offd : ∀ p ∈ fpi ++ rest, p.1 ≠ du) (m1 : (u, instObj 611 du) ∈ rest) (hkd : ∀ x ∈ R, x.1.kind ≤ 1) (hup0 : 0 ≤ upto) (hup1 : upto < 72057594037927936) (hlo : ∀ b, lo = some b → b.size ≤ 1000) (hhi : ∀ b, hi = some b → b.size ≤ 1000) (hx : R[j]? = some x) (k : ∀ fp' tgb tka tvb h' tk', Fr h₀ L h' m → News h₀ L h' ((du, UD q inner upto lo hi (1) tgb (fbwd lo upto R (lenOf (befOf (skipb R x.1.u j))) none).1.isSome (savedK R (fbwd lo upto R (lenOf (befOf (skipb R x.1.u j))) none).1) tka (savedV R (fbwd lo upto R (lenOf (befOf (skipb R x.1.u j))) none).1) tvb) :: (fp' ++ rest)) → sameAdr fp' fpi → C fp' rest inner kd R (befOf (fbwd lo upto R (lenOf (befOf (skipb R x.1.u j))) none).2) → Q (.none) { s with heap := h', toks := tk' }) :
    wpAny (model Challenge.rw_no0415_01.row.prog w) (ktrTop dp un gd cn cs L a ccd cl outer) (call (.ref 594) [.ref u]) Q E s := by
  have hxo : x.1.Ok := S.ok hC _ (List.mem_of_getElem? hx)
  generalize eT : fpi ++ rest = TT at N
  have q1 : (u, instObj 611 du) ∈ TT := eT ▸ List.mem_append_right _ m1
  have f1 : ∀ p ∈ TT, p.1 ≠ du := eT ▸ offd
  have hT : ∀ p ∈ fpi, p ∈ TT := fun p hp => eT ▸ List.mem_append_left _ hp
  have hCT : C fpi TT inner kd R (some j) := S.mono hC fun p hp => eT ▸ List.mem_append_right _ hp
  walk_at "mine begin"
  have hjl := (List.getElem?_eq_some_iff.mp hx).1
  walk_at "mine stepsU"
  clear hCT hT f1
  rename News _ _ _ _ => NN
  refine' inner_call (fun h1 h2 => S.back hC h1 h2) offi offd ?B ?F ?X NN ?T ?hk ?hd ?hu ?m ?s ?_
  walk_at "mine std3"
  (case m => (repeat (first | exact List.Mem.head _ | refine List.Mem.tail _ ?_)))
  (case s => (rw [eT]; walk_at "mine sub"))
  clear NN
  intro fp₂ h' tk' F' N' ha2 hC2
  generalize eT2 : fp₂ ++ rest = T2 at N'
  have q9 : (u, instObj 611 du) ∈ T2 := eT2 ▸ List.mem_append_right _ m1
  walk_at "mine stepsU"
  rename Fr _ _ _ _ => FF
  rename News _ _ _ _ => NN
  subst eT2
  obtain ⟨th, hth⟩ : ∃ th, th = FF.1 := ⟨_, rfl⟩
  clear hth th
  refine While_inv2 (fun n m₁ news₁ => m₁ "self" = some (.ref u) ∧ (∃ th, m₁ "here" = some (.bytes x.1.u th)) ∧ n ≤ R.length ∧ ∃ (fp₁ : Led), news₁ = (du, UD q inner upto lo hi 0 tg false sk tsk sv tsv) :: (fp₁ ++ rest) ∧ sameAdr fp₁ fpi ∧ C fp₁ rest inner kd R (befOf n) ∧ skipb R x.1.u n = skipb R x.1.u j) (n₀ := j) FF NN ⟨rfl, ⟨_, rfl⟩, by omega, fp₂, rfl, ha2, hC2, rfl⟩ ?_
  clear FF NN hC hC2 q9
  rintro n m₁ news₁ h₁ tk₁ F₁ N₁ ⟨e1, ⟨th, e2⟩, hn, fp₁, rfl, ha, hC, hr1⟩
  have offi1 : Off fp₁ rest := offi.adr ha
  have offd1 : ∀ p ∈ fp₁ ++ rest, p.1 ≠ du := offd_adr offd ha
  generalize eT : fp₁ ++ rest = TT at N₁
  have q1 : (u, instObj 611 du) ∈ TT := eT ▸ List.mem_append_right _ m1
  have f1 : ∀ p ∈ TT, p.1 ≠ du := eT ▸ offd1
  have hT : ∀ p ∈ fp₁, p ∈ TT := fun p hp => eT ▸ List.mem_append_left _ hp
  have hCT : C fp₁ TT inner kd R (befOf n) := S.mono hC fun p hp => eT ▸ List.mem_append_right _ hp
  cases n with
  | succ n =>
    obtain ⟨y, hy⟩ : ∃ y, R[n]? = some y := ⟨_, List.getElem?_eq_getElem (by omega)⟩
    have hyo : y.1.Ok := S.ok hC _ (List.mem_of_getElem? hy)
    have eb : befOf (n + 1) = some n := rfl
    rw [eb] at hCT hC
    walk_at "mine stepsU"
    · have hlt : ltB y.1.u x.1.u = true := by assumption
      have er : skipb R x.1.u j = n + 1 := by rw [← hr1, skipb, hy]; simp only; rw [if_pos hlt]
      rw [er] at k
      have eb : befOf (n + 1) = some n := rfl
      rw [eb] at k
      subst eT
      refine' ufb_r (q := q) (lo := lo) (hi := hi) ?B ?F ?X ?N ?T ?hk ?hd ?hu S hC offi1 offd1 m1 hkd ?_
      walk_at "mine std"
      intro fp₉ tg₉ tka tvb h' tk' F' N' ha₉ hC₉
      walk_at "mine steps"
      exact k fp₉ _ _ _ _ _ (by k_asm) (by walk_at "mine news") (ha₉.trans ha) hC₉
    · have hlt : ltB y.1.u x.1.u = false := by assumption
      clear hCT hT f1
      rename News _ _ _ _ => NN
      refine' inner_call (fun h1 h2 => S.back hC h1 h2) offi1 offd1 ?B ?F ?X NN ?T ?hk ?hd ?hu ?m ?s ?_
      walk_at "mine std3"
      (case m => (repeat (first | exact List.Mem.head _ | refine List.Mem.tail _ ?_)))
      (case s => (rw [eT]; walk_at "mine sub"))
      clear NN
      intro fp₃ h' tk' F' N' ha3 hC3
      walk_at "mine stepsU"
      (try dsimp only)
      exact WS2 (n' := n) (.inl rfl) F' N' (by omega) ⟨e1, ⟨_, e2⟩, by omega, fp₃, rfl, ha3.trans ha, hC3, by rw [← hr1, skipb, hy]; simp only; rw [if_neg (by rw [hlt]; decide)]⟩
  | zero =>
    have er : skipb R x.1.u j = 0 := hr1.symm
    rw [er] at k
    walk_at "mine stepsU"
    subst eT
    refine' ufb_r (q := q) (lo := lo) (hi := hi) ?B ?F ?X ?N ?T ?hk ?hd ?hu S hC offi1 offd1 m1 hkd ?_
    walk_at "mine std"
    intro fp₉ tg₉ tka tvb h' tk' F' N' ha₉ hC₉
    walk_at "mine steps"
    exact k fp₉ _ _ _ _ _ (by k_asm) (by walk_at "mine news") (ha₉.trans ha) hC₉
end
end Mine
namespace Mine
open PySem PySem.W PyProof.Rows
/-! what a user's iterator tells: plain law -/
def SortedR (R : List Row) : Prop := R.Pairwise fun a b => cmpI a.1 b.1 ≤ 0
structure Told (R : List Row) (upto : Int) (lo hi : Option (Array UInt8)) (i : Nat) (x : Row) : Prop where
  here : R[i]? = some x
  vis : x.1.seq ≤ upto
  put : x.1.kind ≠ 0
  low : underLo lo x.1.u = false
  high : pastHi hi x.1.u = false
  newest : ∀ (i' : Nat) (y : Row), i' < i → R[i']? = some y → y.1.u = x.1.u → ¬ y.1.seq ≤ upto
theorem sorted_at {R : List Row} (hs : SortedR R) {i j : Nat} {x y : Row} (hx : R[i]? = some x) (hy : R[j]? = some y) (h : i < j) : cmpI x.1 y.1 ≤ 0 := by
  unfold SortedR at hs
  rw [List.pairwise_iff_getElem] at hs
  obtain ⟨h1, e1⟩ := List.getElem?_eq_some_iff.mp hx
  obtain ⟨h2, e2⟩ := List.getElem?_eq_some_iff.mp hy
  have := hs i j h1 h2 h
  rw [e1, e2] at this
  exact this
theorem user_at {R : List Row} (hs : SortedR R) {i j : Nat} {x y : Row} (hx : R[i]? = some x) (hy : R[j]? = some y) (h : i ≤ j) : ltB y.1.u x.1.u = false := by
  by_cases e : i = j
  · subst e; rw [hx] at hy; cases hy; exact ltB_irrefl _
  · exact ((cmpI_le _ _).mp (sorted_at hs hx hy (by omega))).1
theorem pastHi_mono {hi : Option (Array UInt8)} {a b : Array UInt8} (h : pastHi hi a = true) (g : ltB b a = false) : pastHi hi b = true := by
  cases hi with
  | none => cases h
  | some c =>
    have h1 : ltB a c = false := by unfold pastHi at h; simpa using h
    show (!ltB b c) = true
    rw [ltB_le_trans h1 g]; rfl
theorem underLo_mono {lo : Option (Array UInt8)} {a b : Array UInt8} (h : underLo lo a = true) (g : ltB a b = false) : underLo lo b = true := by
  cases lo with
  | none => cases h
  | some c =>
    have h1 : ltB a c = true := h
    show ltB b c = true
    cases e : ltB b c with
    | true => rfl
    | false => have := ltB_le_trans (a := c) e g; rw [h1] at this; cases this
/-- the first told place from i on -/
def FirstT (R : List Row) (upto : Int) (lo hi : Option (Array UInt8)) (i : Nat) : Option Nat → Prop
  | none => ∀ (j : Nat) x, i ≤ j → ¬ Told R upto lo hi j x
  | some j => i ≤ j ∧ (∃ x, Told R upto lo hi j x) ∧ ∀ (k : Nat) x, i ≤ k → k < j → ¬ Told R upto lo hi k x
/-- the last told place below n -/
def LastT (R : List Row) (upto : Int) (lo hi : Option (Array UInt8)) (n : Nat) : Option Nat → Prop
  | none => ∀ (j : Nat) x, j < n → ¬ Told R upto lo hi j x
  | some j => j < n ∧ (∃ x, Told R upto lo hi j x) ∧ ∀ (k : Nat) x, j < k → k < n → ¬ Told R upto lo hi k x
section
variable {R : List Row} {upto : Int} {lo hi : Option (Array UInt8)}
theorem FirstT.pass {i : Nat} {r : Option Nat} (h : FirstT R upto lo hi (i + 1) r) (hn : ∀ x, ¬ Told R upto lo hi i x) : FirstT R upto lo hi i r := by
  cases r with
  | none =>
    intro j x hj
    by_cases e : i = j
    · subst e; exact hn x
    · exact h j x (by omega)
  | some j =>
    refine ⟨by have := h.1; omega, h.2.1, fun k x h1 h2 => ?_⟩
    by_cases e : i = k
    · subst e; exact hn x
    · exact h.2.2 k x (by omega) h2
theorem LastT.pass {n : Nat} {r : Option Nat} (h : LastT R upto lo hi n r) (hn : ∀ x, ¬ Told R upto lo hi n x) : LastT R upto lo hi (n + 1) r := by
  cases r with
  | none =>
    intro j x hj
    by_cases e : j = n
    · subst e; exact hn x
    · exact h j x (by omega)
  | some j =>
    refine ⟨by have := h.1; omega, h.2.1, fun k x h1 h2 => ?_⟩
    by_cases e : k = n
    · subst e; exact hn x
    · exact h.2.2 k x h1 (by omega)
def Cond (R : List Row) (upto : Int) (lo : Option (Array UInt8)) (i : Nat) (skip : Option (Array UInt8)) : Prop :=
  ∀ (j : Nat) (y : Row), i ≤ j → R[j]? = some y → y.1.seq ≤ upto → (openTo skip y.1.u = false ↔ ∃ (i' : Nat) (z : Row), i' < i ∧ R[i']? = some z ∧ z.1.seq ≤ upto ∧ z.1.u = y.1.u) ∧ (openTo skip y.1.u = true → underLo lo y.1.u = false)
theorem Cond.same {i : Nat} {skip : Option (Array UInt8)} (h : Cond R upto lo i skip) {x : Row} (hx : R[i]? = some x) (hc : x.1.seq ≤ upto → openTo skip x.1.u = false) : Cond R upto lo (i + 1) skip := by
  intro j y hj hy hv
  obtain ⟨a, b⟩ := h j y (by omega) hy hv
  refine ⟨⟨fun g => ?_, ?_⟩, b⟩
  · obtain ⟨i', z, h1, h2⟩ := a.mp g
    exact ⟨i', z, by omega, h2⟩
  · rintro ⟨i', z, h1, h2, h3, h4⟩
    by_cases e : i' = i
    · subst e
      rw [hx] at h2; cases h2
      rw [← h4]; exact hc h3
    · exact a.mpr ⟨i', z, by omega, h2, h3, h4⟩
theorem Cond.told (hs : SortedR R) {i : Nat} {x : Row} (hx : R[i]? = some x) (hv : x.1.seq ≤ upto) (hl : underLo lo x.1.u = false) : Cond R upto lo (i + 1) (some x.1.u) := by
  intro j y hj hy hvy
  have h1 := user_at hs hx hy (by omega)
  refine ⟨⟨fun g => ⟨i, x, by omega, hx, hv, ?_⟩, ?_⟩, fun g => ?_⟩
  · exact ltB_conn g h1
  · rintro ⟨i', z, h1, h2, h3, h4⟩
    show ltB x.1.u y.1.u = false
    rw [← h4]
    exact user_at hs h2 hx (by omega)
  · cases e : underLo lo y.1.u with
    | false => rfl
    | true => rw [underLo_mono e h1] at hl; cases hl
theorem ff_spec (hs : SortedR R) : ∀ (l : List Row) (i : Nat) (skip : Option (Array UInt8)), R.drop i = l → Cond R upto lo i skip → FirstT R upto lo hi i (ffwd hi upto l i skip)
  | [], i, skip, hl, _ => fun j x hj ht => by
    have h1 := List.drop_eq_nil_iff.mp hl
    have h2 := (List.getElem?_eq_some_iff.mp ht.here).1
    omega
  | x :: l, i, skip, hl, hc => by
    have hi1 : i < R.length := by
      apply Nat.lt_of_not_le
      intro h
      rw [List.drop_eq_nil_of_le h] at hl
      cases hl
    have hd := List.drop_eq_getElem_cons hi1
    rw [hl] at hd
    injection hd with e1 e2
    have hx : R[i]? = some x := by rw [e1]; exact List.getElem?_eq_getElem hi1
    have only : ∀ z, Told R upto lo hi i z → z = x := fun z hz => by have := hz.here; rw [hx] at this; exact (Option.some.inj this).symm
    cases hp : pastHi hi x.1.u with
    | true =>
      rw [ff_past hp]
      intro j z hj ht
      have := pastHi_mono hp (user_at hs hx ht.here hj)
      rw [ht.high] at this; cases this
    | false =>
      by_cases hv : x.1.tag / 256 ≤ upto
      · obtain ⟨ca, cb⟩ := hc i x (Nat.le_refl _) hx hv
        cases ho : openTo skip x.1.u with
        | true =>
          by_cases hk : x.1.tag % 256 = 0
          · rw [ff_delO hp hv hk ho]
            refine (ff_spec hs l (i + 1) _ e2.symm (Cond.told hs hx hv (cb ho))).pass fun z hz => ?_
            rw [only z hz] at hz
            exact hz.put hk
          · rw [ff_putO hp hv hk ho]
            refine ⟨Nat.le_refl _, ⟨x, hx, hv, hk, cb ho, hp, fun i' y h1 h2 h3 h4 => ?_⟩, fun k z h1 h2 => by omega⟩
            have := ca.mpr ⟨i', y, h1, h2, h4, h3⟩
            rw [ho] at this; cases this
        | false =>
          have hn : ∀ z, ¬ Told R upto lo hi i z := fun z hz => by
            rw [only z hz] at hz
            obtain ⟨i', y, h1, h2, h3, h4⟩ := ca.mp ho
            exact hz.newest i' y h1 h2 h4 h3
          have hc2 := hc.same hx fun _ => ho
          by_cases hk : x.1.tag % 256 = 0
          · rw [ff_delS hp hv hk ho]
            exact (ff_spec hs l (i + 1) _ e2.symm hc2).pass hn
          · rw [ff_putS hp hv hk ho]
            exact (ff_spec hs l (i + 1) _ e2.symm hc2).pass hn
      · rw [ff_inv hp hv]
        refine (ff_spec hs l (i + 1) _ e2.symm (hc.same hx fun h => absurd h hv)).pass fun z hz => ?_
        rw [only z hz] at hz
        exact hv hz.vis
/-- entries that a saved key hides are passed -/
theorem ff_hidden {s : Array UInt8} : ∀ (d i i2 : Nat), i2 - i = d → i ≤ i2 → i2 ≤ R.length → (∀ (k : Nat) y, i ≤ k → k < i2 → R[k]? = some y → pastHi hi y.1.u = false ∧ ltB s y.1.u = false) →
    ffwd hi upto (R.drop i) i (some s) = ffwd hi upto (R.drop i2) i2 (some s)
  | 0, i, i2, hd, h1, h2, h => by have : i = i2 := by omega
                                  rw [this]
  | d + 1, i, i2, hd, h1, h2, h => by
    have hl : i < R.length := by omega
    have hx := List.getElem?_eq_getElem hl
    obtain ⟨hp, ho⟩ := h i _ (Nat.le_refl _) (by omega) hx
    have ih := ff_hidden d (i + 1) i2 (by omega) (by omega) h2 fun k y a b c => h k y (by omega) b c
    rw [← ih, List.drop_eq_getElem_cons hl]
    by_cases hv : (R[i]).1.tag / 256 ≤ upto
    · by_cases hk : (R[i]).1.tag % 256 = 0
      · exact ff_delS hp hv hk ho
      · exact ff_putS hp hv hk ho
    · exact ff_inv hp hv
theorem cond_zero : Cond R upto none 0 none := fun j y _ _ _ => ⟨⟨fun h => (nomatch h), fun ⟨i', z, h, _⟩ => absurd h (Nat.not_lt_zero _)⟩, fun _ => rfl⟩
def KindsOk (R : List Row) : Prop := ∀ x ∈ R, x.1.kind ≤ 1
theorem ltLen_cut (hs : SortedR R) (e : IK) {j : Nat} {x : Row} (hx : R[j]? = some x) : cmpI x.1 e < 0 ↔ j < ltLen R e := cut_of hs j x hx
theorem seek_vis (hk : KindsOk R) {t : Array UInt8} {x : Row} (hup : 0 ≤ upto) (hx : x ∈ R) (hv : x.1.seq ≤ upto) : cmpI x.1 ⟨t, upto.toNat, 1⟩ < 0 ↔ ltB x.1.u t = true := by
  rw [cmpI_lt]
  constructor
  · rintro (h | ⟨h1, h2⟩)
    · exact h
    · exfalso
      have h3 := hk x hx
      unfold IK.kind at h3
      unfold IK.seq at hv
      have h4 : (⟨t, upto.toNat, 1⟩ : IK).tag = (upto.toNat : Int) * 256 + 1 := rfl
      omega
  · exact .inl
theorem cond_seek (hs : SortedR R) (hk : KindsOk R) {t : Array UInt8} (hup : 0 ≤ upto) (hlo : underLo lo t = false) : Cond R upto lo (ltLen R ⟨t, upto.toNat, 1⟩) none := by
  intro j y hj hy hv
  refine ⟨⟨fun h => (nomatch h), ?_⟩, fun _ => ?_⟩
  · rintro ⟨i', z, h1, h2, h3, h4⟩
    exfalso
    have a := (seek_vis hk hup (List.mem_of_getElem? h2) h3).mp ((ltLen_cut hs _ h2).mpr h1)
    rw [h4] at a
    have b := (ltLen_cut hs _ hy).mp ((seek_vis hk hup (List.mem_of_getElem? hy) hv).mpr a)
    omega
  · cases e : underLo lo y.1.u with
    | false => rfl
    | true =>
      exfalso
      have h1 : ltB y.1.u t = false := by
        cases g : ltB y.1.u t with
        | false => rfl
        | true =>
          have := (ltLen_cut hs _ hy).mp ((seek_vis hk hup (List.mem_of_getElem? hy) hv).mpr g)
          omega
      rw [underLo_mono e h1] at hlo
      cases hlo
/-! the way back -/
def InvB (R : List Row) (upto : Int) (lo hi : Option (Array UInt8)) (n : Nat) (hv : Option Nat) : Prop :=
  ∀ j, hv = some j → n ≤ j ∧ ∃ x, R[j]? = some x ∧ x.1.seq ≤ upto ∧ x.1.kind ≠ 0 ∧ underLo lo x.1.u = false ∧ pastHi hi x.1.u = false ∧ ∀ (k : Nat) y, n ≤ k → k < j → R[k]? = some y → ¬ y.1.seq ≤ upto
def SameB (R : List Row) (upto : Int) (n j : Nat) : Prop := ∃ (i : Nat) (y x : Row), i < n ∧ R[i]? = some y ∧ y.1.seq ≤ upto ∧ R[j]? = some x ∧ y.1.u = x.1.u
structure PostB (R : List Row) (upto : Int) (lo hi : Option (Array UInt8)) (n : Nat) (hv : Option Nat) (r : Option Nat × Nat) : Prop where
  no : hv = none → LastT R upto lo hi n r.1
  same : ∀ j, hv = some j → SameB R upto n j → LastT R upto lo hi n r.1
  other : ∀ j, hv = some j → ¬ SameB R upto n j → r.1 = some j
  stop : ∀ j, r.1 = some j → r.2 ≤ j ∧ ∀ (k : Nat) y, r.2 ≤ k → k < j → R[k]? = some y → ¬ y.1.seq ≤ upto
theorem fb_spec (hs : SortedR R) : ∀ (n : Nat) (hv : Option Nat), n ≤ R.length → (∀ (k : Nat) y, k < n → R[k]? = some y → pastHi hi y.1.u = false) → InvB R upto lo hi n hv → PostB R upto lo hi n hv (fbwd lo upto R n hv)
  | 0, hv, _, _, inv => by
    refine ⟨fun h => ?_, fun j h => ?_, fun j h _ => h, fun j h => ?_⟩
    · subst h; exact fun j x h => absurd h (Nat.not_lt_zero _)
    · rintro ⟨i, y, x, h1, _⟩; exact absurd h1 (Nat.not_lt_zero _)
    · obtain ⟨h1, x, h2, h3, h4, h5, h6, h7⟩ := inv j h
      exact ⟨Nat.zero_le _, fun k y a b c => h7 k y (Nat.zero_le _) b c⟩
  | n + 1, hv, hn, hhi, inv => by
    obtain ⟨x, hx⟩ : ∃ x, R[n]? = some x := ⟨_, List.getElem?_eq_getElem (by omega)⟩
    have only : ∀ z, Told R upto lo hi n z → z = x := fun z hz => by have := hz.here; rw [hx] at this; exact (Option.some.inj this).symm
    have hhi' : ∀ (k : Nat) y, k < n → R[k]? = some y → pastHi hi y.1.u = false := fun k y h => hhi k y (by omega)
    cases hu : underLo lo x.1.u with
    | true =>
      rw [fb_past hx hu]
      refine ⟨fun h => ?_, fun j h => ?_, fun j h _ => h, fun j h => ?_⟩
      · subst h
        intro j z hj ht
        have := underLo_mono hu (user_at hs ht.here hx (by omega))
        rw [ht.low] at this; cases this
      · rintro ⟨i, y, z, h1, h2, h3, h4, h5⟩
        obtain ⟨_, z', g2, g3, g4, g5, g6, g7⟩ := inv j h
        rw [h4] at g2; cases g2
        have := underLo_mono hu (user_at hs h2 hx (by omega))
        rw [h5, g5] at this; cases this
      · obtain ⟨h1, z, h2, h3, h4, h5, h6, h7⟩ := inv j h
        exact ⟨h1, h7⟩
    | false =>
      by_cases hvis : x.1.tag / 256 ≤ upto
      · by_cases hb : hv.isSome = true ∧ ltB x.1.u (savedK R hv) = true
        · rw [fb_brk hx hu hvis hb.1 hb.2]
          refine ⟨fun h => ?_, fun j h => ?_, fun j h _ => h, fun j h => ?_⟩
          · rw [h] at hb; exact absurd hb.1 (by decide)
          · rintro ⟨i, y, z, h1, h2, h3, h4, h5⟩
            exfalso
            have e := hb.2
            rw [h, savedK_some h4, ← h5] at e
            rw [user_at hs h2 hx (by omega)] at e
            cases e
          · obtain ⟨h1, z, h2, h3, h4, h5, h6, h7⟩ := inv j h
            exact ⟨h1, h7⟩
        · have hb2 : (hv.isSome && ltB x.1.u (savedK R hv)) = false := by
            cases h1 : hv.isSome <;> cases h2 : ltB x.1.u (savedK R hv) <;> simp_all
          -- whatever was had has the same user as this entry
          have hsame : ∀ j, hv = some j → SameB R upto (n + 1) j := fun j h => by
            obtain ⟨g1, z, g2, g3, g4, g5, g6, g7⟩ := inv j h
            refine ⟨n, x, z, by omega, hx, hvis, g2, ?_⟩
            have h2 : ltB x.1.u z.1.u = false := by rw [h, savedK_some g2] at hb2; simpa using hb2
            exact ltB_conn h2 (user_at hs hx g2 (by omega))
          have fin : LastT R upto lo hi (n + 1) (fbwd lo upto R (n + 1) hv).1 ∧ (∀ j, (fbwd lo upto R (n + 1) hv).1 = some j → (fbwd lo upto R (n + 1) hv).2 ≤ j ∧ ∀ (k : Nat) y, (fbwd lo upto R (n + 1) hv).2 ≤ k → k < j → R[k]? = some y → ¬ y.1.seq ≤ upto) := by
            by_cases hk : x.1.tag % 256 = 0
            · rw [fb_del hx hu hvis hb2 hk]
              have ih := fb_spec hs n none (by omega) hhi' fun j h => nomatch h
              refine ⟨(ih.no rfl).pass fun z hz => ?_, ih.stop⟩
              rw [only z hz] at hz
              exact hz.put hk
            · rw [fb_put hx hu hvis hb2 hk]
              have ih := fb_spec hs n (some n) (by omega) hhi' fun j h => by
                cases h
                exact ⟨Nat.le_refl _, x, hx, hvis, hk, hu, hhi n x (by omega) hx, fun k y h1 h2 => by omega⟩
              refine ⟨?_, ih.stop⟩
              by_cases hsm : SameB R upto n n
              · refine (ih.same n rfl hsm).pass fun z hz => ?_
                rw [only z hz] at hz
                obtain ⟨i, y, z', h1, h2, h3, h4, h5⟩ := hsm
                rw [hx] at h4; cases h4
                exact hz.newest i y h1 h2 h5 h3
              · rw [ih.other n rfl hsm]
                refine ⟨by omega, ⟨x, hx, hvis, hk, hu, hhi n x (by omega) hx, fun i' y h1 h2 h3 h4 => hsm ⟨i', y, x, h1, h2, h4, hx, h3⟩⟩, fun k z h1 h2 => by omega⟩
          exact ⟨fun _ => fin.1, fun _ _ _ => fin.1, fun j h hns => absurd (hsame j h) hns, fin.2⟩
      · rw [fb_inv hx hu hvis]
        have ih := fb_spec hs n hv (by omega) hhi' fun j h => by
          obtain ⟨g1, z, g2, g3, g4, g5, g6, g7⟩ := inv j h
          refine ⟨by omega, z, g2, g3, g4, g5, g6, fun k y h1 h2 h3 => ?_⟩
          by_cases e : k = n
          · subst e; rw [hx] at h3; cases h3; exact hvis
          · exact g7 k y (by omega) h2 h3
        have nt : ∀ z, ¬ Told R upto lo hi n z := fun z hz => by
          rw [only z hz] at hz
          exact hvis hz.vis
        refine ⟨fun h => (ih.no h).pass nt, fun j h hsm => ?_, fun j h hns => ?_, ih.stop⟩
        · obtain ⟨i, y, z, h1, h2, h3, h4, h5⟩ := hsm
          refine (ih.same j h ⟨i, y, z, ?_, h2, h3, h4, h5⟩).pass nt
          by_cases e : i = n
          · subst e; rw [hx] at h2; cases h2; exact absurd h3 hvis
          · omega
        · refine ih.other j h fun hsm => hns ?_
          obtain ⟨i, y, z, h1, h2⟩ := hsm
          exact ⟨i, y, z, by omega, h2⟩
theorem skipb_le (u : Array UInt8) : ∀ n, skipb R u n ≤ n
  | 0 => Nat.le_refl _
  | n + 1 => by
    rw [skipb]
    cases R[n]? with
    | none => exact Nat.le_refl _
    | some x =>
      simp only
      split
      · exact Nat.le_refl _
      · have := skipb_le u n; omega
theorem skipb_over (u : Array UInt8) : ∀ n (k : Nat) y, skipb R u n ≤ k → k < n → R[k]? = some y → ltB y.1.u u = false
  | 0, k, y, _, h, _ => absurd h (Nat.not_lt_zero _)
  | n + 1, k, y, h1, h2, hy => by
    rw [skipb] at h1
    by_cases e : k = n
    · subst e
      rw [hy] at h1
      simp only at h1
      cases h3 : ltB y.1.u u with
      | false => rfl
      | true => rw [if_pos h3] at h1; omega
    · cases h3 : R[n]? with
      | none => rw [h3] at h1; simp only at h1; omega
      | some x =>
        rw [h3] at h1
        simp only at h1
        split at h1
        · omega
        · exact skipb_over u n k y h1 (by omega) hy
end
open PySem PySem.W PyProof.Rows PySem.Spec
/-! a loop whose turns may change the ground -/
def TurnG (G : Heap → Prop) (L : Addr) (J : (Str → Option Value) → Led → Prop) (I : Addr) (o : Obj) (s : Shared) (Q : Flow → Shared → Prop) (f : Flow) (s₂ : Shared) : Prop :=
  match f with
  | .ret v => Q (.ret v) s₂
  | .brk => Q .next s₂
  | _ => ∃ g h' tk' m' news' led, G g ∧ s₂ = { s with heap := h', toks := tk' } ∧ Fr g L h' m' ∧ News g L h' led ∧ (I, o) ∈ led ∧ (∀ p ∈ news', p ∈ led) ∧ (∀ p ∈ news', p.1 ≠ I) ∧ J m' news'
def LoopAtG (prog : Program) (w : World) (A : Around) (G : Heap → Prop) (env : Env) (x : Str) (body : List Stmt) (Q : Flow → Shared → Prop) (E : Value → Shared → Prop) (it : Value) (s₂ : Shared) : Prop :=
  ∃ (I : Addr) (n : Nat) (P : Nat → Value → Prop) (St : Nat → Heap → Prop) (m : Str → Option Value) (news : Led) (J : Nat → (Str → Option Value) → Led → Prop) (g : Heap),
    it = .ref I ∧ Walks prog w A I [I] [I] n P St ∧ @Ne Nat env.locals I ∧ G g ∧ (∀ g, G g → g.get? I = none) ∧ (∀ i h, St i h → ∃ o, h.get? I = some o) ∧ (∀ p ∈ news, p.1 ≠ I) ∧ St 0 s₂.heap ∧ Fr g env.locals s₂.heap m ∧ News g env.locals s₂.heap news ∧ J 0 m news ∧
    (∀ i v m₁ news₁ h tk o g, i < n → P i v → G g → J i m₁ news₁ → (∀ p ∈ news₁, p.1 ≠ I) → Fr g env.locals h (fun y => if y = x then some v else m₁ y) → News g env.locals h ((I, o) :: news₁) →
      wpAny (model prog w) A (execs body env) (TurnG G env.locals (J (i + 1)) I o { s₂ with heap := h, toks := tk } Q) E { s₂ with heap := h, toks := tk }) ∧
    ∀ g h' tk m' news', G g → Fr g env.locals h' m' → News g env.locals h' news' → J n m' news' → Q .next { s₂ with heap := h', toks := tk }
section
variable {prog : Program} {w : World} {A : Around} {s : Shared} {env : Env}
theorem For_G {E : Value → Shared → Prop} {Q : Flow → Shared → Prop} {x : Str} {px pos : Pos} {iter : Expr} {body : List Stmt} (G : Heap → Prop) (hx : env.kindOf x = some .local)
    (hp : (env.scope.kind == .class || (env.scope.kind == .module && env.locals != env.globals)) = false)
    (h : wpAny (model prog w) A (eval iter env) (fun xv s₁ => wpAny (model prog w) A (pyIter xv) (fun it s₂ => LoopAtG prog w A G env x body Q E it s₂) E s₁) E s)
    (hs : ∀ x, foldedSetIterable iter env x = pure x := by intro _; rfl)
    (hE : PassesOwn (model prog w) A env E := by passes_own) :
    wpAny (model prog w) A (exec (.For (.Name x px) iter body [] pos) env) Q E s := by
  refine wpAny_For (wpAny_mono h (fun xv s₁ h₁ => wpAny_mono h₁ (fun it s₂ h₂ => ?_) fun _ _ e => e) fun _ _ e => e) hs
  obtain ⟨I, n, P, St, m, news, J, g, rfl, W, hL, hg, hGI, hStI, hnw, hst, F, N, h0, step, hQ⟩ := h₂
  refine codeAny_forLoop (R := fun r s' => match r with | .ok f => Q f s' | .error e => cameBackBy (model prog w) A env E e s')
    (fun k s' => ∃ h' tk m' news' i g, s' = { s₂ with heap := h', toks := tk } ∧ St i h' ∧ G g ∧ Fr g env.locals h' m' ∧ News g env.locals h' news' ∧ (∀ p ∈ news', p.1 ≠ I) ∧ J i m' news' ∧ i ≤ n ∧ k = n + 1 - i) ?_ (n + 1)
    ⟨s₂.heap, s₂.toks, m, news, 0, g, rfl, hst, hg, F, N, hnw, h0, Nat.zero_le _, rfl⟩
  rintro k s' ⟨h', tk, m', news', i, g, rfl, hst', hg', F', N', hnw', hJ, hi, rfl⟩
  have hI0 := hGI g hg'
  have ne_of : ∀ {b : Addr}, @Ne Nat b I → b ∉ [I] := fun hne hm => hne (List.mem_singleton.mp hm)
  have next : ∀ h₁ : Heap, (∀ b o, b ∉ [I] → h'.get? b = some o → h₁.get? b = some o) → Fr g env.locals h₁ m' ∧ News g env.locals h₁ news' := fun h₁ hk₁ =>
    ⟨⟨F'.ns.at' fun o e => hk₁ _ o (ne_of hL) e, fun b o e => hk₁ b o (ne_of fun q => by rw [q, hI0] at e; cases e) (F'.keep b o e), F'.above⟩, fun p hp => ⟨hk₁ _ _ (ne_of (hnw' p hp)) (N' p hp).1, (N' p hp).2⟩⟩
  by_cases hlt : i < n
  · refine W.item i _ _ _ hlt hst' fun v h₁ tk₁ hP hst₁ hk₁ => ?_
    obtain ⟨F₁, N₁⟩ := next h₁ hk₁
    refine wpAny_assign_Name (wpAny_storeName_local hx F₁.ns (fun h₂ hn₂ hs₂ => ?_) hp)
    have F₂ := F₁.set hn₂ hs₂
    obtain ⟨o, ho⟩ := hStI _ _ hst₁
    have ho₂ : h₂.get? I = some o := (hs₂.2 I fun q => hL q.symm).trans ho
    have N₂ : News g env.locals h₂ ((I, o) :: news') := fun p hp => by
      rcases List.mem_cons.mp hp with rfl | hp
      · exact ⟨ho₂, fun q => hL q.symm, hI0⟩
      · exact (N₁.set hs₂) p hp
    refine wpAny_mono (wpAny_passesOwn hE (step i v m' news' h₂ _ o g hlt hP hg' hJ hnw' F₂ N₂)) (fun f s₃ h₃ => ?_) fun _ _ e => e
    have fin : (∃ g h' tk' m' news' led, G g ∧ s₃ = { s₂ with heap := h', toks := tk' } ∧ Fr g env.locals h' m' ∧ News g env.locals h' led ∧ (I, o) ∈ led ∧ (∀ p ∈ news', p ∈ led) ∧ (∀ p ∈ news', p.1 ≠ I) ∧ J (i + 1) m' news') →
        ∃ m, m < n + 1 - i ∧ ∃ h' tk m' news' i g, s₃ = { s₂ with heap := h', toks := tk } ∧ St i h' ∧ G g ∧ Fr g env.locals h' m' ∧ News g env.locals h' news' ∧ (∀ p ∈ news', p.1 ≠ I) ∧ J i m' news' ∧ i ≤ n ∧ m = n + 1 - i := by
      rintro ⟨g₃, h₃', tk₃, m₂, news₂, led, hg₃, rfl, F₃, N₃, hI, hsub, hne, hJ₃⟩
      refine ⟨n + 1 - (i + 1), by omega, h₃', tk₃, m₂, news₂, i + 1, g₃, rfl, ?_, hg₃, F₃, fun p hp => N₃ p (hsub p hp), hne, hJ₃, hlt, rfl⟩
      refine W.frame _ _ _ hst₁ fun b hb o' e => ?_
      rw [List.mem_singleton.mp hb] at e ⊢
      rw [ho] at e
      cases e
      exact (N₃ _ hI).1
    cases f with
    | ret v => exact h₃
    | brk => exact h₃
    | cont => exact fin h₃
    | next => exact fin h₃
  · have hin : i = n := by omega
    subst hin
    refine W.done _ _ _ hst' fun h₁ tk₁ hk₁ => wpAny_execs_nil ?_
    obtain ⟨F₁, N₁⟩ := next h₁ hk₁
    exact hQ g h₁ tk₁ m' news' hg' F₁ N₁ hJ
theorem iter_upG {E : Value → Shared → Prop} {Q : Flow → Shared → Prop} {x : Str} {body : List Stmt} {r : Addr} {t₀ u₀ v₀ : Tok} {n : Nat} {m₀ : Str → Option Value} {news : Led} {G : Heap → Prop} {g : Heap} (J : Nat → (Str → Option Value) → Led → Prop)
    (hh : A.handled = none) (hr : IsRange s.heap r 0 (n : Int) 1 t₀ u₀ v₀) (hn : n ≤ 1000000) (F : Fr g env.locals s.heap m₀) (N : News g env.locals s.heap news) (hg : G g) (hG : ∀ g', G g' → ∀ b, g.get? b = none → g'.get? b = none) (hj : J 0 m₀ news)
    (turn : ∀ (i : Nat) t m₁ news₁ h tk I o g, i < n → G g → J i m₁ news₁ → (∀ p ∈ news₁, p.1 ≠ I) → Fr g env.locals h (fun y => if y = x then some (.int (i : Int) t) else m₁ y) → News g env.locals h ((I, o) :: news₁) →
      wpAny (model prog w) A (execs body env) (TurnG G env.locals (J (i + 1)) I o { s with heap := h, toks := tk } Q) E { s with heap := h, toks := tk })
    (done : ∀ m₁ news₁ h tk g, G g → J n m₁ news₁ → Fr g env.locals h m₁ → News g env.locals h news₁ → Q .next { s with heap := h, toks := tk }) :
    wpAny (model prog w) A (pyIter (.ref r)) (fun it s₂ => LoopAtG prog w A G env x body Q E it s₂) E s := by
  refine wpAny_pyIter_range hr (small_up hn) ?_
  have W := Walks.range (prog := prog) (w := w) hh s.heap.objs.size 0 1 n
  refine ⟨_, n, _, _, m₀, news, J, g, rfl, W, ?_, hg, fun g' hg' => hG g' hg' _ (next_is_new F), fun i h hs => ?_, fun p hp hI => ?_, (by show IsRangeIter _ _ _ _ _; rw [size_up]; simpa using Heap.get?_push_size _ rfl), F.push _, (fun p hp => ⟨Heap.get?_push_of_some _ (N p hp).1, (N p hp).2⟩), hj, ?_, ?_⟩
  · exact fun hm => absurd F.ns.lt (hm ▸ Nat.lt_irrefl _)
  · exact ⟨_, hs⟩
  · exact absurd (Heap.lt_size (N p hp).1) (hI ▸ Nat.lt_irrefl _)
  · rintro i v m₁ news₁ h tk o g' hi ⟨t, rfl⟩ hg' hJ hne F₁ N₁
    exact turn i t m₁ news₁ h tk _ o g' hi hg' hJ hne (by rw [show (0 : Int) + i * 1 = i from by omega] at F₁; exact F₁) N₁
  · intro g' h' tk m' news' hg' F' N' hJ
    exact done m' news' h' tk g' hg' hJ F' N'
end
open PySem PySem.W PyProof.Rows PySem.Spec PySem.Calls
set_option maxRecDepth 100000
/-! entering a def that catches, from a frame that has cells of its own -/
section
variable {K : Frag} {p : Program} {loose : List Str} {mean : ExcName → Option Value} {mg mb : Str → Option Value} {prog : Program} {w : World} {A A₀ : Around} {s : Shared} {base h₀ : Heap} {L a : Addr} {m : Str → Option Value} {news : Led} {cn : Str} {cs : Scope} {ccd : Value} {cl : List (Str × Addr)} {outer : List Env}
theorem enterX (B : Below A₀ base outer h₀) (F : Fr h₀ L s.heap m) (N : News h₀ L s.heap news) (hA : A.frames = some (envX cn cs L a ccd cl :: outer)) (hck : cs.kind = .function) :
    ∃ oL es ep, (hideAll s.heap (news.map (·.1))).get? L = some oL ∧ oL.data = .dict es ep ∧ (∀ h', h'.get? L = some oL → Heap.Ns h' L m) ∧ (∀ (sl : Array (Option Value)) h', h'.get? L = some { oL with slots := sl } → Heap.Ns h' L m) ∧
      h₀.StaysIn (hideAll s.heap (news.map (·.1))) ∧ Below A base (envX cn cs L a ccd cl :: outer) (hideAll s.heap (news.map (·.1))) := by
  obtain ⟨oL, es, ep, h1, h2, h3, h4, h5, B₂⟩ := kts_enter (a := a) (ccd := ccd) (cn := cn) (A := { A with frames := some (envOf cn cs L a ccd :: outer) }) B F N rfl hck
  exact ⟨oL, es, ep, h1, h2, h3, h4, h5, ⟨hA, B₂.stays, B₂.frames⟩⟩
theorem memX {b : Addr} (h : b ∈ [envX cn cs L a ccd cl].filterMap (·.frame)) : b = L := by
  rcases List.mem_filterMap.mp h with ⟨e, he, hf⟩
  rw [List.mem_singleton.mp he] at hf
  exact (Option.some.inj hf).symm
theorem code_defSX {R : Result → Shared → Prop} {name qual : Str} {params : Arguments} {body : List Stmt} {scope : Scope} {dV kV doc pm cdv ct oc : Value} {an od : Option Addr} {osl : Array (Option Value)} {f : Addr} {args : Args} {binds : List (Str × Value)}
    (B : Below A₀ base [] h₀) (F : Fr h₀ L s.heap m) (X₀ : K.In h₀) (N : News h₀ L s.heap news) (T : Top p loose mean mg mb h₀) (hA : A.frames = some [envX cn cs L a ccd cl])
    (ho : K.lookup f = some ⟨oc, od, .func (fnOf name qual params body scope dV kV doc pm an cdv ct), osl⟩) (hcd : codeIn K cdv qual = true) (hroom : A.depth < recursionLimit)
    (hbind : BindsTo s (fnOf name qual params body scope dV kV doc pm an cdv ct) args binds) (hloc : ∀ y ∈ binds, scope.names.lookup y.1 = some .local)
    (h : ∀ g L' h₁, Fr h₀ L g m → Fr g L' h₁ (fun y => binds.reverse.lookup y) → News g L' h₁ news → Below A base [envX cn cs L a ccd cl] g → K.In g → Top p loose mean mg mb g → KtsDicts ([envX cn cs L a ccd cl].filterMap (·.frame)) g →
      wpAny (model prog w) (A.deeper (envOf qual scope L' f cdv)) (execs body (envOf qual scope L' f cdv))
        (fun fl s' => LeaveS0 ([envX cn cs L a ccd cl].filterMap (·.frame)) h₀ L m g R (match fl with | .ret v => v | _ => .none) s')
        (fun e s' => wpAny (model prog w) (A.deeper (envOf qual scope L' f cdv)) (leaving (envOf qual scope L' f cdv) e) (fun _ s'' => R (.error e) s'') (fun e' s'' => R (.error e') s'') s')
        { s with heap := h₁, toks := s.toks + binds.length })
    (hck : cs.kind = .function) (hco : scope.isCoroutine = false) (hgen : scope.isGenerator = false) (hk : scope.kind = .function)
    (hcell : ∀ x ∈ scope.names, x.2 ≠ .cell) : codeAny (model prog w) A (.call (.ref f) args) R s := by
  have X := X₀.keeps F.keep
  refine codeAny_call_def (fd := fnOf name qual params body scope dV kV doc pm an cdv ct) (body := body) (binds := binds) hroom (X _ _ ho) rfl (T.nolimit.keeps F.keep) (codeRec_of X hcd) rfl hbind hcell hloc (fun h₁ hns hk₁ => ?_) hco hgen hk
  obtain ⟨oL, es, ep, hLg, hLd, hN, hNs, st, B₂⟩ := enterX (cl := cl) (a := a) (ccd := ccd) B F N hA hck
  have Fg : Fr h₀ L (hideAll s.heap (news.map (·.1))) m := ⟨hN _ hLg, st, F.above⟩
  have F1 : Fr (hideAll s.heap (news.map (·.1))) s.heap.objs.size h₁ (fun y => binds.reverse.lookup y) := ⟨hns, fun b o e => hk₁ b o (of_hideAll _ e), Nat.le_of_eq (hideAll_size _ _)⟩
  have N1 : News (hideAll s.heap (news.map (·.1))) s.heap.objs.size h₁ news := fun q hq => ⟨hk₁ _ _ (N q hq).1, Nat.ne_of_lt (Heap.lt_size (N q hq).1), hideAll_none _ (List.mem_map_of_mem hq)⟩
  have D1 : KtsDicts ([envX cn cs L a ccd cl].filterMap (·.frame)) (hideAll s.heap (news.map (·.1))) := fun b hb => by
    rw [memX hb]
    exact ⟨oL, es, ep, hLg, hLd⟩
  refine wpAny_mono (h _ s.heap.objs.size h₁ Fg F1 N1 B₂ (X₀.keeps st) (T.keeps st) D1) (fun fl s' hl => ?_) fun _ _ y => y
  obtain ⟨g', L', m', news', T', F', N', k⟩ := hl
  have nL₀ : h₀.get? L = none := kts_self F
  obtain ⟨sl, hs⟩ := T'.up hLg
  refine k ⟨hNs sl _ (F'.keep _ _ hs), fun b o e => F'.keep b o (T'.other b o (st b o e) fun q => ?_), F.above⟩ fun q hq => ⟨(N' q hq).1, fun e => ?_, ?_⟩
  · rw [memX q, nL₀] at e
    cases e
  · have := (N' q hq).2.2
    rw [e, hs] at this
    cases this
  · cases z : h₀.get? q.1 with
    | none => rfl
    | some o =>
      obtain ⟨sl', hs'⟩ := T'.up (st _ _ z)
      have := (N' q hq).2.2
      rw [hs'] at this
      cases this
end
end Mine
namespace Mine
open PySem PySem.W PyProof.Rows PySem.Spec
set_option hygiene false in
local macro_rules | `(tactic| walk_at "compareOp Lt bytes bytes") => `(tactic| with_reducible refine Mine.lt_bytes ?_)
set_option hygiene false in
local macro_rules | `(tactic| walk_at "compareOp Gt bytes bytes") => `(tactic| with_reducible refine Mine.gt_bytes ?_)
set_option hygiene false in
local macro_rules | `(tactic| walk_at "compareOp GtE bytes bytes") => `(tactic| with_reducible refine Mine.ge_bytes ?_)
set_option hygiene false in
local macro_rules | `(tactic| walk_at "call type:bytes") => `(tactic| ((with_reducible show wpAny _ _ (call (Value.type "bytes") [Value.bytes _ _]) _ _ _); refine Mine.call_bytes_bytes ?_))
set_option hygiene false in
local macro_rules | `(tactic| walk_at "binaryOp LShift int int") => `(tactic| ((first | (with_reducible refine Mine.shl8 ?h0 ?h1 ?_) | (with_reducible refine Mine.shl16 ?h0 ?h1 ?_) | (with_reducible refine Mine.shl24 ?h0 ?h1 ?_) | (with_reducible refine Mine.shl32 ?h0 ?h1 ?_)); (case h0 => omega); (case h1 => omega)))
set_option hygiene false in
local macro_rules | `(tactic| walk_at "binaryOp BitOr int int") => `(tactic| ((first | (with_reducible refine Mine.or8 ?h0 ?h1 ?h2 ?_) | (with_reducible refine Mine.or16 ?h0 ?h1 ?h2 ?_) | (with_reducible refine Mine.or24 ?h0 ?h1 ?h2 ?_) | (with_reducible refine Mine.or32 ?h0 ?h1 ?h2 ?_)); (case h0 => omega); (case h1 => omega); (case h2 => omega)))
set_option hygiene false in
local macro_rules | `(tactic| walk_at "binaryOp LShift int int") => `(tactic| ((with_reducible refine Mine.shl8b ?h0 ?h1 ?_); (case h0 => omega); (case h1 => omega)))
set_option hygiene false in
local macro_rules | `(tactic| walk_at "binaryOp RShift int int") => `(tactic| (first | (with_reducible refine Mine.shr8 ?_) | (with_reducible refine Mine.shr16 ?_) | (with_reducible refine Mine.shr24 ?_) | (with_reducible refine Mine.shr32 ?_)))
set_option hygiene false in
local macro_rules | `(tactic| walk_at "binaryOp BitAnd int int") => `(tactic| ((first | (with_reducible refine Mine.and255 ?h0 ?_) | (with_reducible refine Mine.andM32 ?h0 ?_)); (case h0 => omega)))
set_option hygiene false in
local macro_rules | `(tactic| walk_at "binaryOp BitOr int int") => `(tactic| ((with_reducible refine Mine.or8r ?h0 ?h1 ?h2 ?_); (case h0 => omega); (case h1 => omega); (case h2 => omega)))
set_option hygiene false in
local macro_rules | `(tactic| walk_at "call type:bytes") => `(tactic| ((with_reducible show wpAny _ _ (call (Value.type "bytes") [Value.ref _]) _ _ _); k_dflt (refine' KBa.make_K ?kbaF ?kbaN ?kbah ?kbal ?kbai ?kbar ?kban ?_; (case kbaF => k_asm); (case kbaN => k_asm); (case kbah => rfl); (case kbal => kba_isList); (case kbai => kba_listInts); (case kbar => assumption); (case kban => kba_size)); intro _ _ _ F' N' kbaIn))
set_option hygiene false in
local macro_rules | `(tactic| walk_at "binaryOp Add bytes bytes") => `(tactic| ((with_reducible refine Mine.add_bb ?hz ?_); (case hz => (first | omega | (simp only [Array.size_append, PySem.byteArr_size, Mine.l32, List.length_cons, List.length_nil]; omega))); intro _ _))
set_option hygiene false in
local macro_rules | `(tactic| walk_at "call builtin:len") => `(tactic| ((with_reducible show wpAny _ _ (call (Value.builtin "len") [Value.ref _]) _ _ _); k_dflt (refine' KM.len_K ?N ?m ?e ?b ?_; (case N => k_asm); (case m => k_mem); (case e => assumption); (case b => omega); k_whole)))
set_option hygiene false in
local macro_rules | `(tactic| k_room) => `(tactic| ktr_room)
set_option hygiene false in
local macro_rules | `(tactic| k_units) => `(tactic| ktr_units)
set_option hygiene false in
local macro_rules | `(tactic| k_all) => `(tactic| assumption)
set_option hygiene false in
local macro_rules | `(tactic| k_mem) => `(tactic| assumption)
set_option hygiene false in
local macro_rules | `(tactic| walk_at "mine begin") => `(tactic| ((rename Frag.In _ _ => X1); revert X1; k_fill; intro X1; refine wpAny_call ?_; k_dflt ktr_enter))
set_option hygiene false in
local macro_rules | `(tactic| walk_at "mine beginT") => `(tactic| (revert X XB; k_fill; intro X1 XB; refine wpAny_call ?_; k_dflt (refine' Mine.code_defSX ?k1 ?k2 ?k3 ?k4 ?k5 ?kA ?k6 ?k7 ?k8 ?k9 ?kB ?_ ?cK ?c2 ?c3 ?c4 ?c5; (case kA => exact rfl); (case k2 => k_asm); (case k1 => k_asm); (case k3 => exact X1); (case k4 => k_asm); (case k5 => k_asm); (case k6 => k_is); (case k7 => k_is); (case k8 => ktr_room); (case k9 => exact BindsTo.of_eq rfl); (case kB => exact locs rfl); (case cK => assumption); (case c2 => exact rfl); (case c3 => exact rfl); (case c4 => exact rfl); (case c5 => decide); k_whole; intro g' L' h' FG' F' N' B' X' T' D'; (try dsimp only); (try k_fold))))
set_option hygiene false in
local macro_rules | `(tactic| walk_at "mine std") => `(tactic| ((case B => k_asm); (case F => k_asm); (case X => k_asm); (case N => k_asm); (case T => k_asm); (case hk => first | exact rfl | assumption); (case hd => ktr_room); (case hu => ktr_units)))
set_option hygiene false in
local macro_rules | `(tactic| walk_at "mine news") => `(tactic| (first | k_asm | (refine' news_of ?nn ?ns; (case nn => assumption); (case ns => (intro pp hpp; repeat (first | exact hpp | refine List.mem_cons_of_mem _ ?_))))))
set_option hygiene false in
local macro_rules | `(tactic| walk_at "mine std3") => `(tactic| ((case B => k_asm); (case F => k_asm); (case X => k_asm); (case T => k_asm); (case hk => first | exact rfl | assumption); (case hd => ktr_room); (case hu => ktr_units)))
set_option hygiene false in
local macro_rules | `(tactic| walk_at "mine sub") => `(tactic| (intro pp hpp; repeat (first | exact hpp | refine List.mem_cons_of_mem _ ?_)))
set_option hygiene false in
local macro_rules | `(tactic| walk_at "mine steps") => `(tactic| repeat' (first
  | ((fail_if_success (with_reducible show wpAny _ _ (exec (PySem.Stmt.While _ _ _ _) _) _ _ _)); (fail_if_success (with_reducible show wpAny _ _ (pyIter _) _ _ _)); (fail_if_success (with_reducible show wpAny _ _ (call (Value.ref (Mine.adr _ MN.first)) _) _ _ _)); (fail_if_success (with_reducible show wpAny _ _ (call (Value.ref (Mine.adr _ MN.last)) _) _ _ _)); (fail_if_success (with_reducible show wpAny _ _ (call (Value.ref (Mine.adr _ MN.seek)) _) _ _ _)); (fail_if_success (with_reducible show wpAny _ _ (call (Value.ref (Mine.adr _ MN.step)) _) _ _ _)); (fail_if_success (with_reducible show wpAny _ _ (call (Value.ref (Mine.adr _ MN.back)) _) _ _ _));
     (fail_if_success (with_reducible show wpAny _ _ (call (Value.ref 461) _) _ _ _)); (fail_if_success (with_reducible show wpAny _ _ (call (Value.ref 468) _) _ _ _)); (fail_if_success (with_reducible show wpAny _ _ (call (Value.ref 475) _) _ _ _));
     (first | (k_unfold; (try dsimp only)) | walk1 | (dsimp only; walk1) | (leave1; walk_say "STEP leave1"; (try dsimp only)) | fail "no step"))))
set_option hygiene false in
local macro_rules | `(tactic| walk_at "mine stepsL") => `(tactic| repeat' (first
  | ((fail_if_success (with_reducible show wpAny _ _ (exec (PySem.Stmt.While _ _ _ _) _) _ _ _)); (fail_if_success (with_reducible show wpAny _ _ (pyIter _) _ _ _)); (fail_if_success (with_reducible show wpAny _ _ (call (Value.ref (Mine.adr _ MN.first)) _) _ _ _)); (fail_if_success (with_reducible show wpAny _ _ (call (Value.ref (Mine.adr _ MN.last)) _) _ _ _)); (fail_if_success (with_reducible show wpAny _ _ (call (Value.ref (Mine.adr _ MN.seek)) _) _ _ _)); (fail_if_success (with_reducible show wpAny _ _ (call (Value.ref (Mine.adr _ MN.step)) _) _ _ _)); (fail_if_success (with_reducible show wpAny _ _ (call (Value.ref (Mine.adr _ MN.back)) _) _ _ _));
     (fail_if_success (with_reducible show wpAny _ _ (call (Value.ref 412) _) _ _ _)); (fail_if_success (with_reducible show wpAny _ _ (call (Value.ref 419) _) _ _ _)); (fail_if_success (with_reducible show wpAny _ _ (call (Value.ref 461) _) _ _ _)); (fail_if_success (with_reducible show wpAny _ _ (call (Value.ref 468) _) _ _ _)); (fail_if_success (with_reducible show wpAny _ _ (call (Value.ref 475) _) _ _ _));
     (first | (k_unfold; (try dsimp only)) | walk1 | (dsimp only; walk1) | (leave1; walk_say "STEP leave1"; (try dsimp only)) | fail "no step"))))
set_option hygiene false in
local macro_rules | `(tactic| walk_at "mine stepsU") => `(tactic| repeat' (first
  | ((fail_if_success (with_reducible show wpAny _ _ (exec (PySem.Stmt.While _ _ _ _) _) _ _ _)); (fail_if_success (with_reducible show wpAny _ _ (pyIter _) _ _ _)); (fail_if_success (with_reducible show wpAny _ _ (call (Value.ref (Mine.adr _ MN.first)) _) _ _ _)); (fail_if_success (with_reducible show wpAny _ _ (call (Value.ref (Mine.adr _ MN.last)) _) _ _ _)); (fail_if_success (with_reducible show wpAny _ _ (call (Value.ref (Mine.adr _ MN.seek)) _) _ _ _)); (fail_if_success (with_reducible show wpAny _ _ (call (Value.ref (Mine.adr _ MN.step)) _) _ _ _)); (fail_if_success (with_reducible show wpAny _ _ (call (Value.ref (Mine.adr _ MN.back)) _) _ _ _));
     (fail_if_success (with_reducible show wpAny _ _ (call (Value.ref 412) _) _ _ _)); (fail_if_success (with_reducible show wpAny _ _ (call (Value.ref 419) _) _ _ _)); (fail_if_success (with_reducible show wpAny _ _ (call (Value.ref 573) _) _ _ _)); (fail_if_success (with_reducible show wpAny _ _ (call (Value.ref 580) _) _ _ _)); (fail_if_success (with_reducible show wpAny _ _ (call (Value.ref 461) _) _ _ _)); (fail_if_success (with_reducible show wpAny _ _ (call (Value.ref 468) _) _ _ _)); (fail_if_success (with_reducible show wpAny _ _ (call (Value.ref 475) _) _ _ _));
     (first | (k_unfold; (try dsimp only)) | walk1 | (dsimp only; walk1) | (leave1; walk_say "STEP leave1"; (try dsimp only)) | fail "no step"))))
set_option hygiene false in
local macro_rules | `(tactic| walk_at "mine stepsF") => `(tactic| repeat' (first
  | ((fail_if_success (with_reducible show wpAny _ _ (exec (PySem.Stmt.While _ _ _ _) _) _ _ _)); (fail_if_success (with_reducible show wpAny _ _ (pyIter _) _ _ _)); (fail_if_success (with_reducible show wpAny _ _ (call (Value.ref (Mine.adr _ MN.first)) _) _ _ _)); (fail_if_success (with_reducible show wpAny _ _ (call (Value.ref (Mine.adr _ MN.last)) _) _ _ _)); (fail_if_success (with_reducible show wpAny _ _ (call (Value.ref (Mine.adr _ MN.seek)) _) _ _ _)); (fail_if_success (with_reducible show wpAny _ _ (call (Value.ref (Mine.adr _ MN.step)) _) _ _ _)); (fail_if_success (with_reducible show wpAny _ _ (call (Value.ref (Mine.adr _ MN.back)) _) _ _ _));
     (fail_if_success (with_reducible show wpAny _ _ (call (Value.ref 412) _) _ _ _)); (fail_if_success (with_reducible show wpAny _ _ (call (Value.ref 419) _) _ _ _)); (fail_if_success (with_reducible show wpAny _ _ (call (Value.ref 573) _) _ _ _)); (fail_if_success (with_reducible show wpAny _ _ (call (Value.ref 580) _) _ _ _)); (fail_if_success (with_reducible show wpAny _ _ (exec (PySem.Stmt.For _ _ _ _ _) _) _ _ _)); (fail_if_success (with_reducible show wpAny _ _ (call (Value.ref 461) _) _ _ _)); (fail_if_success (with_reducible show wpAny _ _ (call (Value.ref 468) _) _ _ _)); (fail_if_success (with_reducible show wpAny _ _ (call (Value.ref 475) _) _ _ _));
     (first | (k_unfold; (try dsimp only)) | walk1 | (dsimp only; walk1) | (leave1; walk_say "STEP leave1"; (try dsimp only)) | fail "no step"))))
set_option hygiene false in
local macro_rules | `(tactic| walk_at "mine stepsI") => `(tactic| repeat' (first
  | ((fail_if_success (with_reducible show wpAny _ _ (exec (PySem.Stmt.While _ _ _ _) _) _ _ _)); (fail_if_success (with_reducible show wpAny _ _ (pyIter _) _ _ _)); (fail_if_success (with_reducible show wpAny _ _ (call (Value.ref (Mine.adr _ MN.first)) _) _ _ _)); (fail_if_success (with_reducible show wpAny _ _ (call (Value.ref (Mine.adr _ MN.last)) _) _ _ _)); (fail_if_success (with_reducible show wpAny _ _ (call (Value.ref (Mine.adr _ MN.seek)) _) _ _ _)); (fail_if_success (with_reducible show wpAny _ _ (call (Value.ref (Mine.adr _ MN.step)) _) _ _ _)); (fail_if_success (with_reducible show wpAny _ _ (call (Value.ref (Mine.adr _ MN.back)) _) _ _ _));
     (fail_if_success (with_reducible show wpAny _ _ (call (Value.ref 412) _) _ _ _)); (fail_if_success (with_reducible show wpAny _ _ (call (Value.ref 419) _) _ _ _)); (fail_if_success (with_reducible show wpAny _ _ (call (Value.ref 573) _) _ _ _)); (fail_if_success (with_reducible show wpAny _ _ (call (Value.ref 580) _) _ _ _)); (fail_if_success (with_reducible show wpAny _ _ (exec (PySem.Stmt.For _ _ _ _ _) _) _ _ _)); (fail_if_success (with_reducible show wpAny _ _ (isTrue _ _ _) _ _ _)); (fail_if_success (with_reducible show wpAny _ _ (call (Value.ref 461) _) _ _ _)); (fail_if_success (with_reducible show wpAny _ _ (call (Value.ref 468) _) _ _ _)); (fail_if_success (with_reducible show wpAny _ _ (call (Value.ref 475) _) _ _ _));
     (first | (k_unfold; (try dsimp only)) | walk1 | (dsimp only; walk1) | (leave1; walk_say "STEP leave1"; (try dsimp only)) | fail "no step"))))
set_option hygiene false in
local macro_rules | `(tactic| walk_at "subscriptTail") => `(tactic| ((with_reducible show wpAny _ _ (subscriptTail _ _ (Value.ref _) (Value.int _ _)) _ _ _); k_dflt (refine' Mine.item_list ?N ?m ?a ?b ?x ?_; (case N => k_asm); (case m => k_mem); (case a => omega); (case b => omega); (case x => assumption); k_whole)))
set_option hygiene false in
local macro_rules | `(tactic| walk_at "subscriptTail") => `(tactic| ((with_reducible show wpAny _ _ (subscriptTail _ _ (Value.ref _) (Value.int _ _)) _ _ _); k_dflt (refine' Mine.item_tup ?N ?m ?a ?b ?x ?_; (case N => k_asm); (case m => k_mem); (case a => omega); (case b => omega); (case x => first | exact rfl | assumption); k_whole)))
set_option hygiene false in
local macro_rules | `(tactic| walk_at "eval Name") => `(tactic| (k_dflt (refine' nameX_L ?F ?v ?_ ?a ?b; (case b => rfl); (case F => k_asm); (case a => rfl); (case v => first | exact rfl | assumption); k_whole)))
set_option hygiene false in
local macro_rules | `(tactic| walk_at "call ref") => `(tactic| ((with_reducible show wpAny _ _ (call (Value.ref 115) _) _ _ _); k_dflt (refine' Mine.rd32_r ?B ?F ?X ?N ?T ?hk ?hd ?hu ?s1 ?s2 ?s3 ?s4 ?_; walk_at "mine std"; (case s1 => assumption); (case s2 => omega); (case s3 => omega); (case s4 => omega); k_whole; intro t' h' tk' F' N' b1' b2'; (try k_sweep))))
set_option hygiene false in
local macro_rules | `(tactic| walk_at "call ref") => `(tactic| ((with_reducible show wpAny _ _ (call (Value.ref 122) _) _ _ _); k_dflt (refine' Mine.rd64_r ?B ?F ?X ?N ?T ?hk ?hd ?hu ?s1 ?s2 ?s3 ?s4 ?_; walk_at "mine std"; (case s1 => assumption); (case s2 => omega); (case s3 => omega); (case s4 => omega); k_whole; intro t' h' tk' F' N'; (try k_sweep))))
set_option hygiene false in
local macro_rules | `(tactic| walk_at "call ref") => `(tactic| ((with_reducible show wpAny _ _ (call (Value.ref 150) _) _ _ _); k_dflt (refine' Mine.user_of_r ?B ?F ?X ?N ?T ?hk ?hd ?hu ?s1 ?_; walk_at "mine std"; (case s1 => assumption); k_whole; intro t' h' tk' F' N'; (try k_sweep))))
set_option hygiene false in
local macro_rules | `(tactic| walk_at "call ref") => `(tactic| ((with_reducible show wpAny _ _ (call (Value.ref 157) _) _ _ _); k_dflt (refine' Mine.tag_of_r ?B ?F ?X ?N ?T ?hk ?hd ?hu ?s1 ?_; walk_at "mine std"; (case s1 => assumption); k_whole; intro t' h' tk' F' N'; (try k_sweep))))
set_option hygiene false in
local macro_rules | `(tactic| walk_at "call ref") => `(tactic| ((with_reducible show wpAny _ _ (call (Value.ref 171) _) _ _ _); k_dflt (refine' Mine.ocmp_r ?B ?F ?X ?N ?T ?hk ?hd ?hu  ?_; walk_at "mine std"; k_whole; intro t' h' tk' F' N'; (try k_sweep))))
set_option hygiene false in
local macro_rules | `(tactic| walk_at "call ref") => `(tactic| ((with_reducible show wpAny _ _ (call (Value.ref 136) _) _ _ _); k_dflt (refine' Mine.mkik_r ?B ?F ?X ?N ?T ?hk ?hd ?hu ?s1 ?s2 ?s3 ?_; walk_at "mine std"; (case s1 => omega); (case s2 => omega); (case s3 => omega); k_whole; intro t' h' tk' F' N'; (try k_sweep))))
set_option hygiene false in
local macro_rules | `(tactic| walk_at "call ref") => `(tactic| ((with_reducible show wpAny _ _ (call (Value.ref 253) _) _ _ _); k_dflt (refine' Mine.icmp_r ?B ?F ?X ?N ?T ?hk ?hd ?hu ?s1 ?s2 ?s3 ?_; walk_at "mine std"; (case s1 => assumption); (case s2 => assumption); (case s3 => first | assumption | (refine' OrdIn.mono ?oo ?os; (case oo => assumption); (case os => walk_at "mine sub"))); k_whole; intro t' h' tk' F' N'; (try k_sweep))))
set_option hygiene false in
local macro_rules | `(tactic| walk_at "call ref") => `(tactic| ((with_reducible show wpAny _ _ (call (Value.ref 405) _) _ _ _); k_dflt (refine' Mine.look_r ?B ?F ?X ?N ?T ?hk ?hd ?hu ?s1 ?s2 ?s3 ?s4 ?s5 ?s6 ?s7 ?s8 ?s9 ?s10 ?s11 ?_; (case s1 => assumption); walk_at "mine std"; (case s2 => exact hC2); (case s3 => exact hT2); (case s4 => exact n1); (case s5 => exact n2); (case s6 => exact hcv2); (case s7 => omega); (case s8 => omega); (case s9 => exact g1); (case s10 => exact g2); (case s11 => assumption); k_whole; intro v' h' tk' F' N' V'; (try k_sweep))))
set_option hygiene false in
local macro_rules | `(tactic| walk_at "call ref") => `(tactic| ((with_reducible show wpAny _ _ (call (Value.ref 412) _) _ _ _); k_dflt (refine' Mine.least_r ?B ?F ?X ?N ?T ?hk ?hd ?hu ?s1 ?s2 ?s3 ?s4 ?s5 ?s6 ?s7 ?s8 ?_; walk_at "mine std"; (case s1 => exact n1); (case s2 => exact ord2); (case s3 => exact ht2); (case s4 => exact hok2); (case s5 => omega); (case s6 => exact g1); (case s7 => exact g2); (case s8 => assumption); k_whole; intro t' h' tk' F' N'; (try k_sweep))))
set_option hygiene false in
local macro_rules | `(tactic| walk_at "call ref") => `(tactic| ((with_reducible show wpAny _ _ (call (Value.ref 419) _) _ _ _); k_dflt (refine' Mine.great_r ?B ?F ?X ?N ?T ?hk ?hd ?hu ?s1 ?s2 ?s3 ?s4 ?s5 ?s6 ?s7 ?s8 ?_; walk_at "mine std"; (case s1 => exact n1); (case s2 => exact ord2); (case s3 => exact ht2); (case s4 => exact hok2); (case s5 => omega); (case s6 => exact g1); (case s7 => exact g2); (case s8 => assumption); k_whole; intro t' h' tk' F' N'; (try k_sweep))))
set_option hygiene false in
local macro_rules | `(tactic| walk_at "call ref") => `(tactic| ((with_reducible show wpAny _ _ (call (Value.ref 321) _) _ _ _); k_dflt (refine' Mine.lvalid_r ?B ?F ?X ?N ?T ?hk ?hd ?hu ?s1 ?_; walk_at "mine std"; (case s1 => assumption); k_whole; intro h' tk' F' N'; (try k_sweep))))
set_option hygiene false in
local macro_rules | `(tactic| walk_at "mine subT") => `(tactic| (intro pp hpp; have hq := (List.mem_append.mp hpp).elim (hT pp) _root_.id; repeat (first | exact hq | refine List.mem_cons_of_mem _ ?_)))
set_option hygiene false in
local macro_rules | `(tactic| walk_at "getMethod ref") => `(tactic| ((with_reducible show wpAny _ _ (getMethod (Value.ref (KS.c _)) (PySem.Str.ofString "valid") _) _ _ _); k_dflt (refine' Mine.gm_cur ?S ?C ?F ?X ?N ?s MN.valid ?_; (case S => assumption); (case C => assumption); (case F => k_asm); (case X => k_asm); (case N => k_asm); (case s => walk_at "mine subT"); k_whole)))
set_option hygiene false in
local macro_rules | `(tactic| walk_at "getMethod ref") => `(tactic| ((with_reducible show wpAny _ _ (getMethod (Value.ref (KS.c _)) (PySem.Str.ofString "key") _) _ _ _); k_dflt (refine' Mine.gm_cur ?S ?C ?F ?X ?N ?s MN.key ?_; (case S => assumption); (case C => assumption); (case F => k_asm); (case X => k_asm); (case N => k_asm); (case s => walk_at "mine subT"); k_whole)))
set_option hygiene false in
local macro_rules | `(tactic| walk_at "getMethod ref") => `(tactic| ((with_reducible show wpAny _ _ (getMethod (Value.ref (KS.c _)) (PySem.Str.ofString "value") _) _ _ _); k_dflt (refine' Mine.gm_cur ?S ?C ?F ?X ?N ?s MN.value ?_; (case S => assumption); (case C => assumption); (case F => k_asm); (case X => k_asm); (case N => k_asm); (case s => walk_at "mine subT"); k_whole)))
set_option hygiene false in
local macro_rules | `(tactic| walk_at "getMethod ref") => `(tactic| ((with_reducible show wpAny _ _ (getMethod (Value.ref (KS.c _)) (PySem.Str.ofString "seek_first") _) _ _ _); k_dflt (refine' Mine.gm_cur ?S ?C ?F ?X ?N ?s MN.first ?_; (case S => assumption); (case C => assumption); (case F => k_asm); (case X => k_asm); (case N => k_asm); (case s => walk_at "mine subT"); k_whole)))
set_option hygiene false in
local macro_rules | `(tactic| walk_at "getMethod ref") => `(tactic| ((with_reducible show wpAny _ _ (getMethod (Value.ref (KS.c _)) (PySem.Str.ofString "seek_last") _) _ _ _); k_dflt (refine' Mine.gm_cur ?S ?C ?F ?X ?N ?s MN.last ?_; (case S => assumption); (case C => assumption); (case F => k_asm); (case X => k_asm); (case N => k_asm); (case s => walk_at "mine subT"); k_whole)))
set_option hygiene false in
local macro_rules | `(tactic| walk_at "getMethod ref") => `(tactic| ((with_reducible show wpAny _ _ (getMethod (Value.ref (KS.c _)) (PySem.Str.ofString "seek") _) _ _ _); k_dflt (refine' Mine.gm_cur ?S ?C ?F ?X ?N ?s MN.seek ?_; (case S => assumption); (case C => assumption); (case F => k_asm); (case X => k_asm); (case N => k_asm); (case s => walk_at "mine subT"); k_whole)))
set_option hygiene false in
local macro_rules | `(tactic| walk_at "getMethod ref") => `(tactic| ((with_reducible show wpAny _ _ (getMethod (Value.ref (KS.c _)) (PySem.Str.ofString "step") _) _ _ _); k_dflt (refine' Mine.gm_cur ?S ?C ?F ?X ?N ?s MN.step ?_; (case S => assumption); (case C => assumption); (case F => k_asm); (case X => k_asm); (case N => k_asm); (case s => walk_at "mine subT"); k_whole)))
set_option hygiene false in
local macro_rules | `(tactic| walk_at "getMethod ref") => `(tactic| ((with_reducible show wpAny _ _ (getMethod (Value.ref (KS.c _)) (PySem.Str.ofString "back") _) _ _ _); k_dflt (refine' Mine.gm_cur ?S ?C ?F ?X ?N ?s MN.back ?_; (case S => assumption); (case C => assumption); (case F => k_asm); (case X => k_asm); (case N => k_asm); (case s => walk_at "mine subT"); k_whole)))
set_option hygiene false in
local macro_rules | `(tactic| walk_at "getMethod ref") => `(tactic| ((with_reducible show wpAny _ _ (getMethod (Value.ref inner) (PySem.Str.ofString "valid") _) _ _ _); k_dflt (refine' Mine.gm_cur ?S ?C ?F ?X ?N ?s MN.valid ?_; (case S => assumption); (case C => assumption); (case F => k_asm); (case X => k_asm); (case N => k_asm); (case s => walk_at "mine subT"); k_whole)))
set_option hygiene false in
local macro_rules | `(tactic| walk_at "getMethod ref") => `(tactic| ((with_reducible show wpAny _ _ (getMethod (Value.ref inner) (PySem.Str.ofString "key") _) _ _ _); k_dflt (refine' Mine.gm_cur ?S ?C ?F ?X ?N ?s MN.key ?_; (case S => assumption); (case C => assumption); (case F => k_asm); (case X => k_asm); (case N => k_asm); (case s => walk_at "mine subT"); k_whole)))
set_option hygiene false in
local macro_rules | `(tactic| walk_at "getMethod ref") => `(tactic| ((with_reducible show wpAny _ _ (getMethod (Value.ref inner) (PySem.Str.ofString "value") _) _ _ _); k_dflt (refine' Mine.gm_cur ?S ?C ?F ?X ?N ?s MN.value ?_; (case S => assumption); (case C => assumption); (case F => k_asm); (case X => k_asm); (case N => k_asm); (case s => walk_at "mine subT"); k_whole)))
set_option hygiene false in
local macro_rules | `(tactic| walk_at "getMethod ref") => `(tactic| ((with_reducible show wpAny _ _ (getMethod (Value.ref inner) (PySem.Str.ofString "seek_first") _) _ _ _); k_dflt (refine' Mine.gm_cur ?S ?C ?F ?X ?N ?s MN.first ?_; (case S => assumption); (case C => assumption); (case F => k_asm); (case X => k_asm); (case N => k_asm); (case s => walk_at "mine subT"); k_whole)))
set_option hygiene false in
local macro_rules | `(tactic| walk_at "getMethod ref") => `(tactic| ((with_reducible show wpAny _ _ (getMethod (Value.ref inner) (PySem.Str.ofString "seek_last") _) _ _ _); k_dflt (refine' Mine.gm_cur ?S ?C ?F ?X ?N ?s MN.last ?_; (case S => assumption); (case C => assumption); (case F => k_asm); (case X => k_asm); (case N => k_asm); (case s => walk_at "mine subT"); k_whole)))
set_option hygiene false in
local macro_rules | `(tactic| walk_at "getMethod ref") => `(tactic| ((with_reducible show wpAny _ _ (getMethod (Value.ref inner) (PySem.Str.ofString "seek") _) _ _ _); k_dflt (refine' Mine.gm_cur ?S ?C ?F ?X ?N ?s MN.seek ?_; (case S => assumption); (case C => assumption); (case F => k_asm); (case X => k_asm); (case N => k_asm); (case s => walk_at "mine subT"); k_whole)))
set_option hygiene false in
local macro_rules | `(tactic| walk_at "getMethod ref") => `(tactic| ((with_reducible show wpAny _ _ (getMethod (Value.ref inner) (PySem.Str.ofString "step") _) _ _ _); k_dflt (refine' Mine.gm_cur ?S ?C ?F ?X ?N ?s MN.step ?_; (case S => assumption); (case C => assumption); (case F => k_asm); (case X => k_asm); (case N => k_asm); (case s => walk_at "mine subT"); k_whole)))
set_option hygiene false in
local macro_rules | `(tactic| walk_at "getMethod ref") => `(tactic| ((with_reducible show wpAny _ _ (getMethod (Value.ref inner) (PySem.Str.ofString "back") _) _ _ _); k_dflt (refine' Mine.gm_cur ?S ?C ?F ?X ?N ?s MN.back ?_; (case S => assumption); (case C => assumption); (case F => k_asm); (case X => k_asm); (case N => k_asm); (case s => walk_at "mine subT"); k_whole)))
set_option hygiene false in
local macro_rules | `(tactic| walk_at "callWith ref") => `(tactic| ((with_reducible show wpAny _ _ (callWith _ (Value.ref (Mine.adr _ _)) _ _ _) _ _ _); k_dflt (first | (refine' callWith_K ?k1 (Mine.keep_cur _ _ _) ?_; (case k1 => k_asm); k_whole) | (refine' callWith_K0 ?k1 (Mine.keep_cur _ _ _) ?_; (case k1 => k_in); k_whole))))
set_option hygiene false in
local macro_rules | `(tactic| walk_at "call ref") => `(tactic| ((with_reducible show wpAny _ _ (call (Value.ref (Mine.adr _ MN.valid)) _) _ _ _); k_dflt (refine' Mine.use_valid ?S ?C ?B ?F ?X ?N ?T ?hk ?hd ?hu ?s ?_; (case S => assumption); (case C => assumption); walk_at "mine std"; (case s => walk_at "mine subT"); k_whole; intro h' tk' F' N'; (try k_sweep))))
set_option hygiene false in
local macro_rules | `(tactic| walk_at "call ref") => `(tactic| ((with_reducible show wpAny _ _ (call (Value.ref (Mine.adr _ MN.key)) _) _ _ _); k_dflt (refine' Mine.use_key ?S ?C ?B ?F ?X ?N ?T ?hk ?hd ?hu ?x ?s ?_; (case S => assumption); (case C => assumption); walk_at "mine std"; (case x => assumption); (case s => walk_at "mine subT"); k_whole; intro t' h' tk' F' N'; (try k_sweep))))
set_option hygiene false in
local macro_rules | `(tactic| walk_at "call ref") => `(tactic| ((with_reducible show wpAny _ _ (call (Value.ref (Mine.adr _ MN.value)) _) _ _ _); k_dflt (refine' Mine.use_value ?S ?C ?B ?F ?X ?N ?T ?hk ?hd ?hu ?x ?s ?_; (case S => assumption); (case C => assumption); walk_at "mine std"; (case x => assumption); (case s => walk_at "mine subT"); k_whole; intro t' h' tk' F' N'; (try k_sweep))))
set_option hygiene false in
local macro_rules | `(tactic| walk_at "call ref") => `(tactic| ((with_reducible show wpAny _ _ (call (Value.ref (Mine.adr _ MN.valid)) _) _ _ _); k_dflt (refine' Mine.use_valid_none ?S ?C ?B ?F ?X ?N ?T ?hk ?hd ?hu ?s ?_; (case S => assumption); (case C => assumption); walk_at "mine std"; (case s => walk_at "mine subT"); k_whole; intro h' tk' F' N'; (try k_sweep))))
set_option hygiene false in
local macro_rules | `(tactic| walk_at "call ref") => `(tactic| ((with_reducible show wpAny _ _ (call (Value.ref (Mine.adr _ MN.valid)) _) _ _ _); k_dflt (refine' Mine.use_valid_some ?S ?C ?B ?F ?X ?N ?T ?hk ?hd ?hu ?s ?_; (case S => assumption); (case C => assumption); walk_at "mine std"; (case s => walk_at "mine subT"); k_whole; intro h' tk' F' N'; (try k_sweep))))
set_option hygiene false in
local macro_rules | `(tactic| walk_at "call type:range") => `(tactic| ((rename Fr _ _ _ _ => F'); (rename News _ _ _ _ => N'); first | (with_unfolding_all refine range1_rows F' N' ?_; intro h' tk' t1' u1' v1' R' F' N' G') | (with_unfolding_all refine range3_rows F' N' (by decide) ?_; intro h' tk' t1' u1' v1' R' F' N' G')))
set_option hygiene false in
local macro_rules | `(tactic| walk_at "setItem ref int") => `(tactic| ((with_reducible show wpAny _ _ (setItem (Value.ref _) (Value.int _ _) _) _ _ _); k_dflt (refine' Mine.set_list ?F ?N ?U ?a ?b ?c ?_; (case F => k_asm); (case N => k_asm); (case U => k_upd); (case a => omega); (case b => omega); (case c => omega); k_whole; intro h' F' N'; (try k_sweep))))
def GroundG (fs : List Addr) (A : Around) (base : Heap) (envs : List Env) (K : Frag) (p : Program) (loose : List Str) (mean : ExcName → Option Value) (mg mb : Str → Option Value) (g₀ : Heap) : Heap → Prop :=
  fun g => KtsTurn fs g₀ g ∧ Below A base envs g ∧ K.In g ∧ Top p loose mean mg mb g ∧ KtsDicts fs g
theorem GroundG.start {fs : List Addr} {A : Around} {base : Heap} {envs : List Env} {K : Frag} {p : Program} {loose : List Str} {mean : ExcName → Option Value} {mg mb : Str → Option Value} {g₀ : Heap}
    (B : Below A base envs g₀) (X : K.In g₀) (T : Top p loose mean mg mb g₀) (D : KtsDicts fs g₀) : GroundG fs A base envs K p loose mean mg mb g₀ g₀ := ⟨KtsTurn.refl, B, X, T, D⟩
section
variable {prog : Program} {w : World} {A : Around} {s : Shared} {env : Env}
theorem For_Gs {E : Value → Shared → Prop} {Q : Flow → Shared → Prop} {x : Str} {px pos : Pos} {iter : Expr} {body : List Stmt} {G : Heap → Prop} {g : Heap} (_hg : G g) (hx : env.kindOf x = some .local)
    (hp : (env.scope.kind == .class || (env.scope.kind == .module && env.locals != env.globals)) = false)
    (h : wpAny (model prog w) A (eval iter env) (fun xv s₁ => wpAny (model prog w) A (pyIter xv) (fun it s₂ => LoopAtG prog w A G env x body Q E it s₂) E s₁) E s)
    (hs : ∀ x, foldedSetIterable iter env x = pure x := by intro _; rfl)
    (hE : PassesOwn (model prog w) A env E := by passes_own) :
    wpAny (model prog w) A (exec (.For (.Name x px) iter body [] pos) env) Q E s := For_G G hx hp h hs hE
end
theorem TurnG.next {G : Heap → Prop} {g h' : Heap} {L : Addr} {J : (Str → Option Value) → Led → Prop} {I : Addr} {o : Obj} {s : Shared} {Q : Flow → Shared → Prop} {f : Flow} {m' : Str → Option Value} {news' led : Led} {tk' : Nat}
    (hf : f = .next ∨ f = .cont) (F : Fr g L h' m') (N : News g L h' led) (hg : G g) (hI : (I, o) ∈ led) (hs : ∀ p ∈ news', p ∈ led) (hne : ∀ p ∈ news', p.1 ≠ I) (hj : J m' news') : TurnG G L J I o s Q f { s with heap := h', toks := tk' } := by
  rcases hf with rfl | rfl <;> exact ⟨g, h', tk', m', news', led, hg, rfl, F, N, hI, hs, hne, hj⟩
def TestPost (g : Heap) (L : Addr) (m : Str → Option Value) (led : Led) (s : Shared) (b : Bool) (s₂ : Shared) : Prop := b = true ∧ ∃ h' tk', s₂ = { s with heap := h', toks := tk' } ∧ Fr g L h' m ∧ News g L h' led
theorem cut_test {M : Model} {A : Around} {E : Value → Shared → Prop} {s : Shared} {t : Sem Bool} {Q : Bool → Shared → Prop} {g : Heap} {L : Addr} {m : Str → Option Value} {led : Led} (_F : Fr g L s.heap m) (_N : News g L s.heap led)
    (h1 : wpAny M A t (TestPost g L m led s) E s) (h2 : ∀ h' tk', Fr g L h' m → News g L h' led → Q true { s with heap := h', toks := tk' }) : wpAny M A t Q E s :=
  wpAny_mono h1 (fun b s₂ ⟨e, h', tk', e2, F', N'⟩ => by subst e; subst e2; exact h2 h' tk' F' N') fun _ _ e => e
section
variable {w : World} {dp un : Nat} {gd : Option (List Code)} {cn : Str} {cs : Scope} {a : Addr} {ccd : Value} {A₀ : Around} {base h₀ : Heap} {L : Addr} {m mg mb : Str → Option Value} {mean : ExcName → Option Value} {s : Shared} {rest : Led}
  {Q E : Value → Shared → Prop} {x dx ch tp od u du inner rl : Addr} {q : MP} {qu : UP} {cur going upto place : Int} {tc tg tsk tsv tpl : Tok} {lo hi : Option (Array UInt8)} {sk sv : Array UInt8} {vs : Array Value} {nv nR : Nat}
set_option maxRecDepth 100000 in
set_option maxHeartbeats 8000000 in
theorem agreeM_off  (B : Below A₀ base [] h₀) (F : Fr h₀ L s.heap m) (X : (Mine.hd.heap_39 w.params).In h₀) (N : News h₀ L s.heap ((dx, MD q ch tp od (-1) tc going tg) :: rest)) (T : Top VW (looseW VW []) mean mg mb h₀) (XB : (Mine.hd.heap_39 w.params).In base) (TB : Top VW (looseW VW []) mean mg mb base) (hk : cs.kind = .function) (hd : dp + 12 < recursionLimit) (hu : un + 96 < cLine)
    (m1 : (x, instObj 506 dx) ∈ rest) (off : ∀ p ∈ rest, p.1 ≠ dx) (hr : (rl, listOf vs nv) ∈ rest) (hvl : vs.size = nR) (hvn : nR ≤ 1000) (hp : place < 0 ∨ (0 ≤ place ∧ (nR : Int) ≤ place)) (k : ∀ h' tk', Fr h₀ L h' m → News h₀ L h' ((dx, MD q ch tp od (-1) tc going tg) :: rest) → Q (.bool true) { s with heap := h', toks := tk' }) :
    wpAny (model Challenge.rw_no0415_01.row.prog w) (ktrTop dp un gd cn cs L a ccd cl []) (call (.ref 683) [.ref x, .ref rl, .int place tpl]) Q E s := by
  walk_at "mine beginT"
  walk_at "mine stepsI"
  rename Fr _ _ _ _ => FF
  rename News _ _ _ _ => NN
  refine' cut_test FF NN ?_ ?_
  · rcases hp with hp | ⟨hp, hp2⟩
    all_goals (
      walk_at "mine stepsF"
      exact ⟨rfl, _, _, rfl, by k_asm, by walk_at "mine news"⟩)
  clear FF NN
  intro h' tk' F' N'
  simp only [if_true]
  walk_at "mine stepsF"
  · rename Below _ _ _ _ => BB
    rename Frag.In _ _ => XX
    rename Top _ _ _ _ _ _ => TT
    rename KtsDicts _ _ => DD
    refine' For_Gs (GroundG.start BB XX TT DD) rfl rfl ?_
    walk_at "mine stepsF"
    rename Fr _ _ _ _ => FF
    rename News _ _ _ _ => NN
    rename IsRange _ _ _ _ _ _ _ _ => RR
    refine' iter_upG (n := 4) (fun _ m₁ news₁ => news₁ = (dx, MD q ch tp od (-1) tc going tg) :: rest ∧ m₁ "walker" = some (.ref x)) rfl RR (by decide) FF NN (GroundG.start BB XX TT DD) (fun g h => h.1.none_) ⟨rfl, rfl⟩ ?_ ?_
    · rintro i t m₁ news₁ h tk I oI g hi ⟨gT, gB, gX, gP, gD⟩ ⟨rfl, e1⟩ hne F₁ N₁
      have hi2 : (i : Int) < 4 := by omega
      walk_at "mine stepsF"
      all_goals (
        rename Fr _ _ _ _ => FF
        rename News _ _ _ _ => NN
        exact TurnG.next (.inl rfl) FF NN ⟨by assumption, by assumption, by assumption, by assumption, by assumption⟩ (.head _) (fun p hp => .tail _ hp) hne ⟨rfl, e1⟩)
    · rintro m₁ news₁ h tk g ⟨gT, gB, gX, gP, gD⟩ ⟨rfl, e1⟩ F₁ N₁
      walk_at "mine stepsF"
      all_goals (exact k _ _ (by k_asm) (by walk_at "mine news"))
set_option maxRecDepth 100000 in
set_option maxHeartbeats 8000000 in
theorem agreeU_off  (B : Below A₀ base [] h₀) (F : Fr h₀ L s.heap m) (X : (Mine.hd.heap_39 w.params).In h₀) (N : News h₀ L s.heap ((du, UD qu inner upto lo hi going tg false sk tsk sv tsv) :: rest)) (T : Top VW (looseW VW []) mean mg mb h₀) (XB : (Mine.hd.heap_39 w.params).In base) (TB : Top VW (looseW VW []) mean mg mb base) (hk : cs.kind = .function) (hd : dp + 12 < recursionLimit) (hu : un + 96 < cLine)
    (m1 : (u, instObj 611 du) ∈ rest) (off : ∀ p ∈ rest, p.1 ≠ du) (hr : (rl, listOf vs nv) ∈ rest) (hvl : vs.size = nR) (hvn : nR ≤ 1000) (hp : place < 0 ∨ (0 ≤ place ∧ (nR : Int) ≤ place)) (k : ∀ h' tk', Fr h₀ L h' m → News h₀ L h' ((du, UD qu inner upto lo hi going tg false sk tsk sv tsv) :: rest) → Q (.bool true) { s with heap := h', toks := tk' }) :
    wpAny (model Challenge.rw_no0415_01.row.prog w) (ktrTop dp un gd cn cs L a ccd cl []) (call (.ref 683) [.ref u, .ref rl, .int place tpl]) Q E s := by
  walk_at "mine beginT"
  walk_at "mine stepsI"
  rename Fr _ _ _ _ => FF
  rename News _ _ _ _ => NN
  refine' cut_test FF NN ?_ ?_
  · rcases hp with hp | ⟨hp, hp2⟩
    all_goals (
      walk_at "mine stepsF"
      exact ⟨rfl, _, _, rfl, by k_asm, by walk_at "mine news"⟩)
  clear FF NN
  intro h' tk' F' N'
  simp only [if_true]
  walk_at "mine stepsF"
  · rename Below _ _ _ _ => BB
    rename Frag.In _ _ => XX
    rename Top _ _ _ _ _ _ => TT
    rename KtsDicts _ _ => DD
    refine' For_Gs (GroundG.start BB XX TT DD) rfl rfl ?_
    walk_at "mine stepsF"
    rename Fr _ _ _ _ => FF
    rename News _ _ _ _ => NN
    rename IsRange _ _ _ _ _ _ _ _ => RR
    refine' iter_upG (n := 4) (fun _ m₁ news₁ => news₁ = (du, UD qu inner upto lo hi going tg false sk tsk sv tsv) :: rest ∧ m₁ "walker" = some (.ref u)) rfl RR (by decide) FF NN (GroundG.start BB XX TT DD) (fun g h => h.1.none_) ⟨rfl, rfl⟩ ?_ ?_
    · rintro i t m₁ news₁ h tk I oI g hi ⟨gT, gB, gX, gP, gD⟩ ⟨rfl, e1⟩ hne F₁ N₁
      have hi2 : (i : Int) < 4 := by omega
      walk_at "mine stepsF"
      all_goals (
        rename Fr _ _ _ _ => FF
        rename News _ _ _ _ => NN
        exact TurnG.next (.inl rfl) FF NN ⟨by assumption, by assumption, by assumption, by assumption, by assumption⟩ (.head _) (fun p hp => .tail _ hp) hne ⟨rfl, e1⟩)
    · rintro m₁ news₁ h tk g ⟨gT, gB, gX, gP, gD⟩ ⟨rfl, e1⟩ F₁ N₁
      walk_at "mine stepsF"
      all_goals (exact k _ _ (by k_asm) (by walk_at "mine news"))
end
open PySem PySem.W PyProof.Rows PySem.SeqAt
set_option maxRecDepth 100000
/-- an int or a run of octets -/
inductive FD where
  | i (n : Int)
  | b (x : Array UInt8)
deriving DecidableEq
def FIs (v : Value) : FD → Prop
  | .i n => ∃ t, v = .int n t
  | .b x => ∃ t, v = .bytes x t
def sameKind : FD → FD → Prop
  | .i _, .i _ => True
  | .b _, .b _ => True
  | _, _ => False
section
variable {A : Around} {s : Shared}
theorem eqAt_bytes (x y : Array UInt8) (t u : Tok) : EqAt A s (.bytes x t) (.bytes y u) (x == y) := fun prog w E Q hq => by
  unfold eqBool
  refine wpAny_holding ?_
  refine wpAny_ite_split (fun hab => ?_) (fun _ => ?_)
  · have e := eq_of_beq hab
    injection e with e1 e2
    subst e1
    rw [show (x == x) = true by simp] at hq
    exact wpAny_bind (wpAny_rule (wpAny_pure hq))
  · have e : (x == y) = (x.toList == y.toList) := by
      by_cases h : x = y
      · subst h; simp
      · have : x.toList ≠ y.toList := fun g => h (Array.toList_inj.mp g)
        simp [h, this]
    rw [e] at hq
    exact wpAny_bind (eq_bytes (wpAny_truthy_bool hq))
theorem eqAt_FD {v v' : Value} {d d' : FD} (h : FIs v d) (h' : FIs v' d') (hk : sameKind d d') : EqAt A s v v' (decide (d = d')) := by
  cases d <;> cases d' <;> try exact hk.elim
  · obtain ⟨t, rfl⟩ := h
    obtain ⟨u, rfl⟩ := h'
    rename_i n n'
    have : (decide (FD.i n = FD.i n')) = (n == n') := by by_cases e : n = n' <;> simp [e]
    rw [this]
    exact (MeetsSeq.EqGives.int n n' t u).at A s
  · obtain ⟨t, rfl⟩ := h
    obtain ⟨u, rfl⟩ := h'
    rename_i n n'
    have : (decide (FD.b n = FD.b n')) = (n == n') := by by_cases e : n = n' <;> simp [e]
    rw [this]
    exact eqAt_bytes n n' t u
end
def FAll : List Value → List FD → Prop
  | [], [] => True
  | v :: vs, d :: ds => FIs v d ∧ FAll vs ds
  | _, _ => False
def kindsAll : List FD → List FD → Prop
  | [], [] => True
  | d :: ds, e :: es => sameKind d e ∧ kindsAll ds es
  | _, _ => False
theorem FAll.len : ∀ {vs : List Value} {ds : List FD}, FAll vs ds → vs.length = ds.length
  | [], [], _ => rfl
  | _ :: _, _ :: _, h => by simp [FAll.len h.2]
  | [], _ :: _, h => h.elim
  | _ :: _, [], h => h.elim
theorem kindsAll.len : ∀ {ds es : List FD}, kindsAll ds es → ds.length = es.length
  | [], [], _ => rfl
  | _ :: _, _ :: _, h => by simp [kindsAll.len h.2]
  | [], _ :: _, h => h.elim
  | _ :: _, [], h => h.elim
theorem FAll.at : ∀ {vs : List Value} {ds : List FD}, FAll vs ds → ∀ (j : Nat) (h : j < vs.length) (h' : j < ds.length), FIs vs[j] ds[j]
  | [], _, _, _, h, _ => absurd h (Nat.not_lt_zero _)
  | _ :: _, [], _, _, _, h => absurd h (Nat.not_lt_zero _)
  | _ :: _, _ :: _, h, 0, _, _ => h.1
  | _ :: _, _ :: _, h, j + 1, h1, h2 => FAll.at h.2 j (by simpa using h1) (by simpa using h2)
theorem kindsAll.at : ∀ {ds es : List FD}, kindsAll ds es → ∀ (j : Nat) (h : j < ds.length) (h' : j < es.length), sameKind ds[j] es[j]
  | [], _, _, _, h, _ => absurd h (Nat.not_lt_zero _)
  | _ :: _, [], _, _, _, h => absurd h (Nat.not_lt_zero _)
  | _ :: _, _ :: _, h, 0, _, _ => h.1
  | _ :: _, _ :: _, h, j + 1, h1, h2 => kindsAll.at h.2 j (by simpa using h1) (by simpa using h2)
section
variable {prog : Program} {w : World} {A : Around} {E : Value → Shared → Prop} {s : Shared} {h₀ : Heap} {L a b : Addr} {news : List (Addr × Obj)} {vs ws : List Value} {ds es : List FD} {n m : Nat}
theorem rc_tuples (N : News h₀ L s.heap news) (ma : (a, ({ cls := .type "tuple", data := .seq vs.toArray n } : Obj)) ∈ news) (mb : (b, ({ cls := .type "tuple", data := .seq ws.toArray m } : Obj)) ∈ news)
    (Fa : FAll vs ds) (Fb : FAll ws es) (K : kindsAll ds es) (hu : A.units < cLine) : RcAt A s (.ref a) (.ref b) (decide (ds = es)) := by
  have l1 := Fa.len
  have l2 := Fb.len
  have l3 := K.len
  have r := RcAt.tuples (A := A) (e := fun j => decide (ds[j]? = es[j]?)) (News.isTup N ma) (News.isTup N mb) hu fun j h1 h2 => by
    have g1 : j < vs.length := by simpa using h1
    have g2 : j < ws.length := by simpa using h2
    have := eqAt_FD (A := A.in1) (s := s) (Fa.at j g1 (by omega)) (Fb.at j g2 (by omega)) (K.at j (by omega) (by omega))
    have e1 : ds[j]? = some ds[j] := List.getElem?_eq_getElem (by omega)
    have e2 : es[j]? = some es[j] := List.getElem?_eq_getElem (by omega)
    rw [e1, e2]
    simpa using this
  have e : ((List.range (min vs.toArray.size ws.toArray.size)).all (fun j => decide (ds[j]? = es[j]?)) && vs.toArray.size == ws.toArray.size) = decide (ds = es) := by
    by_cases h : ds = es
    · subst h
      simp; omega
    · have : ¬ ∀ j, j < ds.length → ds[j]? = es[j]? := fun g => h (List.ext_getElem? fun j => by
        by_cases hj : j < ds.length
        · exact g j hj
        · rw [List.getElem?_eq_none (by omega), List.getElem?_eq_none (by omega)])
      rw [decide_eq_false h]
      apply Bool.eq_false_iff.mpr
      intro g
      rw [Bool.and_eq_true, List.all_eq_true] at g
      exact this fun j hj => by simpa using g.1 j (by simp; omega)
  rw [e] at r
  exact r
theorem eq_tuples {Q : Value → Shared → Prop} (N : News h₀ L s.heap news) (ma : (a, ({ cls := .type "tuple", data := .seq vs.toArray n } : Obj)) ∈ news) (mb : (b, ({ cls := .type "tuple", data := .seq ws.toArray m } : Obj)) ∈ news)
    (Fa : FAll vs ds) (Fb : FAll ws es) (K : kindsAll ds es) (hu : A.units < cLine) (h : Q (.bool (decide (ds = es))) s) : wpAny (model prog w) A (compareOp .Eq (.ref a) (.ref b)) Q E s :=
  rc_tuples N ma mb Fa Fb K hu prog w E Q h
end
theorem fall_nil : FAll [] [] := trivial
theorem fall_b {x : Array UInt8} {t : Tok} {vs : List Value} {ds : List FD} (h : FAll vs ds) : FAll (.bytes x t :: vs) (.b x :: ds) := ⟨⟨t, rfl⟩, h⟩
theorem fall_i {x : Int} {t : Tok} {vs : List Value} {ds : List FD} (h : FAll vs ds) : FAll (.int x t :: vs) (.i x :: ds) := ⟨⟨t, rfl⟩, h⟩
theorem kinds_nil : kindsAll [] [] := trivial
theorem kinds_b {x y : Array UInt8} {ds es : List FD} (h : kindsAll ds es) : kindsAll (.b x :: ds) (.b y :: es) := ⟨trivial, h⟩
theorem kinds_i {x y : Int} {ds es : List FD} (h : kindsAll ds es) : kindsAll (.i x :: ds) (.i y :: es) := ⟨trivial, h⟩
open PySem PySem.W PyProof.Rows PySem.SeqAt
set_option maxRecDepth 100000
/-! sorted(), of tuples of ints and octets -/
def ltFD : FD → FD → Bool
  | .i a, .i b => decide (a < b)
  | .b x, .b y => ltB x y
  | _, _ => false
def ltL : List FD → List FD → Bool
  | d :: ds, e :: es => if d = e then ltL ds es else ltFD d e
  | _, _ => false
section
variable {prog : Program} {w : World} {A : Around} {E : Value → Shared → Prop} {s : Shared}
theorem call_bytes_lt {b c : Array UInt8} {t u : Tok} {Q : Value → Shared → Prop} (h : Q (.bool (ltB b c)) s) : wpAny (model prog w) A (call (.builtin "bytes.__lt__") [.bytes b t, .bytes c u]) Q E s := by
  refine wpAny_call_entry slot_lt (typeIs_bytes s b t) entry_lt ?_ (args_lt _ _)
  show wpAny _ _ (isInstance (.bytes c u) (.type "bytes") >>= fun r => _) _ _ s
  refine wpAny_bind (wpAny_isInstance (typeIs_bytes s c u) F.sub_bytes_bytes ?_)
  exact wpAny_pure ⟨_, rfl, h⟩
theorem oneLt_bytes {b c : Array UInt8} {t u : Tok} {Q : Bool → Shared → Prop} (h : Q (ltB b c) s) : wpAny (model prog w) A (oneLt' true (.bytes b t) (.bytes c u)) Q E s := by
  rw [oneLt'_eq]
  simp only [if_true]
  refine wpAny_bind (wpAny_cRoomFor_byValue rfl ?_)
  refine wpAny_bind (wpAny_callSpecialIfBound?_slot (typeIs_bytes s b t) slot_lt (call_bytes_lt ?_))
  exact wpAny_truthy_bool h
theorem oneLt_FD {v v' : Value} {d d' : FD} {Q : Bool → Shared → Prop} (h : FIs v d) (h' : FIs v' d') (hk : sameKind d d') (hq : Q (ltFD d d') s) : wpAny (model prog w) A (oneLt' false v v') Q E s := by
  refine kat_one v v' ?_
  cases d <;> cases d' <;> try exact hk.elim
  · obtain ⟨t, rfl⟩ := h
    obtain ⟨u, rfl⟩ := h'
    exact lt_int hq
  · obtain ⟨t, rfl⟩ := h
    obtain ⟨u, rfl⟩ := h'
    exact lt_bytes hq
theorem lex_FD {Q : Bool → Shared → Prop} : ∀ {vs ws : List Value} {ds es : List FD} (i : Nat), FAll vs ds → FAll ws es → kindsAll ds es → (i = 0 → ∃ x r, ds = .b x :: r) → Q (ltL ds es) s →
    KatLex prog w A true false Q (vs.zip ws) i s
  | [], [], [], [], _, _, _, _, _, h => h
  | v :: vs, w' :: ws, d :: ds, e :: es, i, h1, h2, h3, h4, h => by
    rw [List.zip_cons_cons]
    refine kat_cons (eqAt_FD (A := A) (s := s) h1.1 h2.1 h3.1 prog w _ _ ?_)
    refine kat_go (fun he => kat_yes ?_) fun he => kat_no ?_
    · have e1 : d = e := of_decide_eq_true he
      refine lex_FD (i + 1) h1.2 h2.2 h3.2 (fun hi => absurd hi (Nat.succ_ne_zero i)) ?_
      rw [ltL, if_pos e1] at h
      exact h
    · have e1 : d ≠ e := of_decide_eq_false he
      rw [ltL, if_neg e1] at h
      cases i with
      | zero =>
        obtain ⟨x, r, hx⟩ := h4 rfl
        injection hx with hx1 hx2
        subst hx1
        cases e with
        | i n => exact h3.1.elim
        | b y =>
          obtain ⟨t, rfl⟩ := h1.1
          obtain ⟨u, rfl⟩ := h2.1
          exact oneLt_bytes h
      | succ i =>
        have e2 : (true && (i + 1 == 0)) = false := by simp
        rw [e2]
        exact oneLt_FD h1.1 h2.1 h3.1 h
  | [], _ :: _, [], _ :: _, _, _, _, h, _, _ => h.elim
  | _ :: _, [], _ :: _, [], _, _, _, h, _, _ => h.elim
  | [], _, _ :: _, _, _, h, _, _, _, _ => h.elim
  | _ :: _, _, [], _, _, h, _, _, _, _ => h.elim
  | _, [], _, _ :: _, _, _, h, _, _, _ => h.elim
  | _, _ :: _, _, [], _, _, h, _, _, _ => h.elim
end
/-! the order -/
theorem ltFD_irrefl (d : FD) : ltFD d d = false := by cases d <;> simp [ltFD, ltB_irrefl]
theorem ltFD_trans {a b c : FD} (h : ltFD a b = true) (g : ltFD b c = true) : ltFD a c = true := by
  cases a <;> cases b <;> cases c <;> simp_all [ltFD]
  · omega
  · exact ltB_trans h g
theorem ltFD_total {a b : FD} (k : sameKind a b) (h : a ≠ b) : ltFD a b = true ∨ ltFD b a = true := by
  cases a <;> cases b <;> simp_all [ltFD, sameKind]
  · omega
  · rename_i x y
    cases e1 : ltB x y with
    | true => exact .inl rfl
    | false =>
      cases e2 : ltB y x with
      | true => exact .inr rfl
      | false => exact absurd (ltB_conn e1 e2) h
theorem ltL_irrefl : ∀ d : List FD, ltL d d = false
  | [] => rfl
  | d :: ds => by rw [ltL, if_pos rfl]; exact ltL_irrefl ds
theorem ltL_trans : ∀ {a b c : List FD}, ltL a b = true → ltL b c = true → ltL a c = true
  | [], _, _, h, _ => by simp [ltL] at h
  | _ :: _, [], _, h, _ => by simp [ltL] at h
  | _ :: _, _ :: _, [], _, h => by simp [ltL] at h
  | a :: as, b :: bs, c :: cs, h, g => by
    rw [ltL] at h g ⊢
    by_cases e1 : a = b
    · subst e1
      rw [if_pos rfl] at h
      by_cases e2 : a = c
      · subst e2
        rw [if_pos rfl] at g ⊢
        exact ltL_trans h g
      · rw [if_neg e2] at g ⊢
        exact g
    · rw [if_neg e1] at h
      by_cases e2 : b = c
      · subst e2
        rw [if_pos rfl] at g
        rw [if_neg e1]
        exact h
      · rw [if_neg e2] at g
        have ht := ltFD_trans h g
        have : a ≠ c := fun e => by subst e; rw [ltFD_irrefl] at ht; cases ht
        rw [if_neg this]
        exact ht
theorem ltL_total : ∀ {a b : List FD}, kindsAll a b → a ≠ b → ltL a b = true ∨ ltL b a = true
  | [], [], _, h => absurd rfl h
  | a :: as, b :: bs, k, h => by
    rw [ltL, ltL]
    by_cases e : a = b
    · subst e
      rw [if_pos rfl, if_pos rfl]
      exact ltL_total k.2 fun g => h (by rw [g])
    · rw [if_neg e, if_neg fun g => e g.symm]
      exact ltFD_total k.1 e
  | [], _ :: _, k, _ => k.elim
  | _ :: _, [], k, _ => k.elim
/-! the machine of sorted, run by a pure test -/
def kasRun {α : Type} (lt : Nat → Nat → Bool) : KasT α → α
  | .ret a => a
  | .ask i j k => kasRun lt (k (lt i j))
def kasOk {α : Type} (lt : Nat → Nat → Bool) (n : Nat) : KasT α → Bool
  | .ret _ => true
  | .ask i j k => decide (i < n) && decide (j < n) && kasOk lt n (k (lt i j))
theorem kas_run {α : Type} {cmp : Nat → Nat → (Bool → Shared → Prop) → Shared → Prop} {lt : Nat → Nat → Bool} {n : Nat} {s : Shared} (hc : ∀ i j C, i < n → j < n → C (lt i j) s → cmp i j C s) {Q : α → Shared → Prop} :
    ∀ t : KasT α, kasOk lt n t = true → Q (kasRun lt t) s → t.kasWp cmp Q s
  | .ret _, _, h => h
  | .ask i j k, ho, h => by
    rw [kasOk, Bool.and_eq_true, Bool.and_eq_true] at ho
    exact hc i j _ (of_decide_eq_true ho.1.1) (of_decide_eq_true ho.1.2) (kas_run hc (k (lt i j)) ho.2 h)
def ltR (r : List Nat) (i j : Nat) : Bool := decide (r.getD i 0 < r.getD j 0)
def sortOk (n : Nat) (r : List Nat) : Bool :=
  kasOk (ltR r) n (kas_sort n) && ((kasRun (ltR r) (kas_sort n)).toList.length == n) && ((kasRun (ltR r) (kas_sort n)).toList.all fun x => decide (x < n)) && decide ((kasRun (ltR r) (kas_sort n)).toList.map (fun x => r.getD x 0) = List.range n)
def nodupB : List Nat → Bool
  | [] => true
  | x :: l => !l.contains x && nodupB l
set_option maxHeartbeats 4000000 in
theorem sortOk2 : ∀ a b : Fin 2, nodupB [a.1, b.1] = true → sortOk 2 [a.1, b.1] = true := by decide +kernel
set_option maxHeartbeats 4000000 in
theorem sortOk3 : ∀ a b c : Fin 3, nodupB [a.1, b.1, c.1] = true → sortOk 3 [a.1, b.1, c.1] = true := by decide +kernel
set_option maxHeartbeats 4000000 in
theorem sortOk4 : ∀ a b c d : Fin 4, nodupB [a.1, b.1, c.1, d.1] = true → sortOk 4 [a.1, b.1, c.1, d.1] = true := by decide +kernel
set_option maxHeartbeats 4000000 in
theorem sortOk5 : ∀ a b c d e : Fin 5, nodupB [a.1, b.1, c.1, d.1, e.1] = true → sortOk 5 [a.1, b.1, c.1, d.1, e.1] = true := by decide +kernel
theorem nodupB_of : ∀ {l : List Nat}, l.Pairwise (· ≠ ·) → nodupB l = true
  | [], _ => rfl
  | x :: l, h => by
    have h1 := List.pairwise_cons.mp h
    rw [nodupB, Bool.and_eq_true]
    refine ⟨?_, nodupB_of h1.2⟩
    have : ¬ x ∈ l := fun hx => h1.1 x hx rfl
    simp [this]
theorem sortOk_all {n : Nat} {r : List Nat} (h2 : 2 ≤ n) (h5 : n ≤ 5) (hl : r.length = n) (hr : ∀ x ∈ r, x < n) (hd : r.Pairwise (· ≠ ·)) : sortOk n r = true := by
  have hb := nodupB_of hd
  have hn : n = 2 ∨ n = 3 ∨ n = 4 ∨ n = 5 := by omega
  rcases hn with rfl | rfl | rfl | rfl
  · obtain ⟨a, b, rfl⟩ : ∃ a b, r = [a, b] := by
      match r, hl with
      | [a, b], _ => exact ⟨a, b, rfl⟩
    exact sortOk2 ⟨a, hr a (by simp)⟩ ⟨b, hr b (by simp)⟩ hb
  · obtain ⟨a, b, c, rfl⟩ : ∃ a b c, r = [a, b, c] := by
      match r, hl with
      | [a, b, c], _ => exact ⟨a, b, c, rfl⟩
    exact sortOk3 ⟨a, hr a (by simp)⟩ ⟨b, hr b (by simp)⟩ ⟨c, hr c (by simp)⟩ hb
  · obtain ⟨a, b, c, d, rfl⟩ : ∃ a b c d, r = [a, b, c, d] := by
      match r, hl with
      | [a, b, c, d], _ => exact ⟨a, b, c, d, rfl⟩
    exact sortOk4 ⟨a, hr a (by simp)⟩ ⟨b, hr b (by simp)⟩ ⟨c, hr c (by simp)⟩ ⟨d, hr d (by simp)⟩ hb
  · obtain ⟨a, b, c, d, e, rfl⟩ : ∃ a b c d e, r = [a, b, c, d, e] := by
      match r, hl with
      | [a, b, c, d, e], _ => exact ⟨a, b, c, d, e, rfl⟩
    exact sortOk5 ⟨a, hr a (by simp)⟩ ⟨b, hr b (by simp)⟩ ⟨c, hr c (by simp)⟩ ⟨d, hr d (by simp)⟩ ⟨e, hr e (by simp)⟩ hb
open PySem PySem.W PyProof.Rows PySem.SeqAt
set_option maxRecDepth 100000
theorem countP_lt {α : Type} {p q : α → Bool} : ∀ {l : List α}, (∀ x ∈ l, p x = true → q x = true) → (∃ x ∈ l, q x = true ∧ p x = false) → l.countP p < l.countP q
  | [], _, ⟨x, hx, _⟩ => by cases hx
  | a :: l, h1, ⟨x, hx, h2, h3⟩ => by
    have hle : l.countP p ≤ l.countP q := by
      clear hx
      have h1' : ∀ x ∈ l, p x = true → q x = true := fun x hx => h1 x (.tail _ hx)
      exact List.countP_mono_left h1'
    rw [List.countP_cons, List.countP_cons]
    have ha := h1 a (.head _)
    rcases List.mem_cons.mp hx with rfl | hx
    · rw [h2, h3]; simp; omega
    · have ih := countP_lt (l := l) (fun x hx => h1 x (.tail _ hx)) ⟨x, hx, h2, h3⟩
      cases hp : p a with
      | true => rw [ha hp]; simp; omega
      | false => simp; omega
def rk (lt : Nat → Nat → Bool) (n i : Nat) : Nat := (List.range n).countP fun j => lt j i
section
variable {lt : Nat → Nat → Bool} {n : Nat} (irr : ∀ i, lt i i = false) (tr : ∀ i j k, lt i j = true → lt j k = true → lt i k = true)
include irr tr
theorem rk_lt {i j : Nat} (hi : i < n) (h : lt i j = true) : rk lt n i < rk lt n j :=
  countP_lt (fun x _ hx => tr x i j hx h) ⟨i, List.mem_range.mpr hi, h, irr i⟩
omit tr in
theorem rk_n {i : Nat} (hi : i < n) : rk lt n i < n := by
  have : rk lt n i < (List.range n).countP fun _ => true := countP_lt (fun _ _ _ => rfl) ⟨i, List.mem_range.mpr hi, rfl, irr i⟩
  simpa using this
theorem rk_iff (tot : ∀ i j, i < n → j < n → i ≠ j → lt i j = true ∨ lt j i = true) {i j : Nat} (hi : i < n) (hj : j < n) : lt i j = decide (rk lt n i < rk lt n j) := by
  cases h : lt i j with
  | true => exact (decide_eq_true (rk_lt irr tr hi h)).symm
  | false =>
    symm
    apply decide_eq_false
    by_cases e : i = j
    · subst e; omega
    · rcases tot i j hi hj e with g | g
      · rw [h] at g; cases g
      · have := rk_lt irr tr hj g; omega
end
section
variable {prog : Program} {w : World} {A : Around} {E : Value → Shared → Prop} {s : Shared} {h₀ : Heap} {L l : Addr} {m : Str → Option Value} {news : List (Addr × Obj)} {vs : List Value} {n : Nat} {Q : Value → Shared → Prop}
/-- sorted() of two to five tuples whose data are different -/
theorem sorted_tuples (F : Fr h₀ L s.heap m) (N : News h₀ L s.heap news) (hl : (l, ({ cls := .type "list", data := .seq vs.toArray n } : Obj)) ∈ news) (h2 : 2 ≤ vs.length) (h5 : vs.length ≤ 5) (ds : Nat → List FD)
    (hel : ∀ (i : Nat) v, vs[i]? = some v → ∃ a xs k, v = .ref a ∧ (a, ({ cls := .type "tuple", data := .seq (List.toArray xs) k } : Obj)) ∈ news ∧ FAll xs (ds i))
    (hk : ∀ i j, i < vs.length → j < vs.length → kindsAll (ds i) (ds j)) (hb : ∀ i, i < vs.length → ∃ x r, ds i = .b x :: r) (hd : ∀ i j, i < vs.length → j < vs.length → i ≠ j → ds i ≠ ds j)
    (k : ∀ D c h' (p : List Nat), p.length = vs.length → (∀ x ∈ p, x < vs.length) → p.Pairwise (fun a b => ltL (ds a) (ds b) = true) → (∀ q ∈ news, q.1 < D) → Fr h₀ L h' m →
      News h₀ L h' ((D, listOf (List.toArray (p.map fun i => vs.getD i .none)) c) :: news) → Q (.ref D) { s with heap := h' }) :
    wpAny (model prog w) A (call (.builtin "sorted") [.ref l]) Q E s := by
  refine kat_sorted F N (News.isList N hl) h2 (by omega) fun D e1 h' F' N' hlt => ?_
  have N2 : News h₀ L h' news := fun p hp => N' p (.tail _ hp)
  -- the first of each tuple
  obtain ⟨fs, hfs, hfb, hfl⟩ : ∃ fs, KatTups h' vs fs ∧ (∀ v ∈ fs, ∃ x t, v = .bytes x t) ∧ fs.length = vs.length := by
    have gen : ∀ (us : List Value) (b : Nat), (∀ (i : Nat) v, us[i]? = some v → ∃ a xs k, v = .ref a ∧ (a, ({ cls := .type "tuple", data := .seq (List.toArray xs) k } : Obj)) ∈ news ∧ FAll xs (ds (b + i)) ∧ ∃ x r, ds (b + i) = .b x :: r) →
        ∃ fs, KatTups h' us fs ∧ (∀ v ∈ fs, ∃ x t, v = .bytes x t) ∧ fs.length = us.length := by
      intro us
      induction us with
      | nil => exact fun _ _ => ⟨[], KatTups.nil, fun v hv => (nomatch hv), rfl⟩
      | cons u us ih =>
        intro b h
        obtain ⟨a, xs, kk, rfl, hm, hF, x, r, hx⟩ := h 0 u rfl
        obtain ⟨fs, g1, g2, g3⟩ := ih (b + 1) fun i v hv => by
          obtain ⟨a, xs, kk, e, hm, hF, hx⟩ := h (i + 1) v hv
          rw [show b + 1 + i = b + (i + 1) by omega]
          exact ⟨a, xs, kk, e, hm, hF, hx⟩
        have hF' : FAll xs (.b x :: r) := by rw [← hx]; exact hF
        cases xs with
        | nil => exact hF'.elim
        | cons f xs =>
          obtain ⟨t, rfl⟩ := hF'.1
          exact ⟨.bytes x t :: fs, KatTups.cons (N2 _ hm).1 rfl rfl (by simp) g1, fun v hv => by
            rcases List.mem_cons.mp hv with rfl | hv
            · exact ⟨x, t, rfl⟩
            · exact g2 v hv, by simp [g3]⟩
    refine gen vs 0 fun i v hv => ?_
    obtain ⟨a, xs, kk, e, hm, hF⟩ := hel i v hv
    rw [Nat.zero_add]
    exact ⟨a, xs, kk, e, hm, hF, hb i (List.getElem?_eq_some_iff.mp hv).1⟩
  refine kat_kind (s := { s with heap := h' }) (T := .type "bytes") hfs (by omega) (fun v hv => ?_) (by decide) ?_
  · obtain ⟨x, t, rfl⟩ := hfb v hv
    exact .now
  have hb2 : (Value.type "bytes" != Value.type "tuple") = true := by decide
  rw [hb2]
  -- the comparisons
  let lt : Nat → Nat → Bool := fun i j => ltL (ds i) (ds j)
  have irr : ∀ i, lt i i = false := fun i => ltL_irrefl _
  have tr : ∀ i j k, lt i j = true → lt j k = true → lt i k = true := fun i j k => ltL_trans
  have tot : ∀ i j, i < vs.length → j < vs.length → i ≠ j → lt i j = true ∨ lt j i = true := fun i j hi hj e => ltL_total (hk i j hi hj) (hd i j hi hj e)
  let r := (List.range vs.length).map (rk lt vs.length)
  have hrl : r.length = vs.length := by simp [r]
  have hrat : ∀ i, i < vs.length → r.getD i 0 = rk lt vs.length i := fun i hi => by simp [r, hi]
  have hok := sortOk_all (r := r) h2 h5 hrl (fun x hx => by
    obtain ⟨i, hi, rfl⟩ := List.mem_map.mp hx
    exact rk_n irr (List.mem_range.mp hi)) (by
    rw [List.pairwise_map]
    refine List.Pairwise.imp_of_mem (R := (· < ·)) (fun {a b} ha hb' hab => ?_) List.pairwise_lt_range
    have ha := List.mem_range.mp ha
    have hb' := List.mem_range.mp hb'
    rcases tot a b ha hb' (Nat.ne_of_lt hab) with g | g
    · have := rk_lt irr tr ha g; omega
    · have := rk_lt irr tr hb' g; omega)
  unfold sortOk at hok
  rw [Bool.and_eq_true, Bool.and_eq_true, Bool.and_eq_true] at hok
  obtain ⟨⟨⟨o1, o2⟩, o3⟩, o4⟩ := hok
  have o2 : _ = _ := eq_of_beq o2
  have o4 := of_decide_eq_true o4
  rw [List.all_eq_true] at o3
  generalize hp : kasRun (ltR r) (kas_sort vs.length) = p at *
  refine kas_run (lt := ltR r) (n := vs.length) (fun i j C hi hj hC => ?_) (kas_sort vs.length) o1 ?_
  · show wpAny (model prog w) A.in1.in1 (keyLt' (tuples' true) (vs.getD i .none) (vs.getD j .none)) C (fun _ _ => False) { s with heap := h' }
    obtain ⟨a1, xs, k1, ea, ma, fa⟩ := hel i _ (List.getElem?_eq_getElem hi)
    obtain ⟨a2, ys, k2, eb, mb, fb⟩ := hel j _ (List.getElem?_eq_getElem hj)
    have ei : vs.getD i .none = .ref a1 := by rw [← ea]; simp [hi]
    have ej : vs.getD j .none = .ref a2 := by rw [← eb]; simp [hj]
    rw [ei, ej]
    refine kat_lt (s := { s with heap := h' }) (N2 _ ma).1 rfl (N2 _ mb).1 rfl ?_
    have hlen : xs.length = ys.length := by rw [fa.len, fb.len, (hk i j hi hj).len]
    have hfin : decide ((List.toArray xs).size < (List.toArray ys).size) = false := by simp [hlen]
    rw [hfin]
    refine lex_FD 0 fa fb (hk i j hi hj) (fun _ => hb i hi) ?_
    have e9 : ltL (ds i) (ds j) = ltR r i j := by
      unfold ltR
      rw [hrat i hi, hrat j hj]
      exact rk_iff irr tr tot hi hj
    rw [e9]
    exact hC
  · rw [hp]
    refine KasFin.intro F' N' (.head fun q hq => Nat.ne_of_lt (hlt q hq)) fun h'' c F'' N'' => ?_
    refine k D c h'' p.toList o2 (fun x hx => of_decide_eq_true (o3 x hx)) ?_ hlt F'' N''
    rw [List.pairwise_iff_getElem]
    intro a b ha hb' hab
    have h1 : p.toList[a] < vs.length := of_decide_eq_true (o3 _ (List.getElem_mem ha))
    have h3 : p.toList[b] < vs.length := of_decide_eq_true (o3 _ (List.getElem_mem hb'))
    have ga : r.getD (p.toList[a]) 0 = a := by
      have := congrArg (fun l => l[a]?) o4
      simp only [List.getElem?_map, List.getElem?_eq_getElem ha, Option.map_some] at this
      rw [List.getElem?_range (by omega)] at this
      exact Option.some.inj this
    have gb : r.getD (p.toList[b]) 0 = b := by
      have := congrArg (fun l => l[b]?) o4
      simp only [List.getElem?_map, List.getElem?_eq_getElem hb', Option.map_some] at this
      rw [List.getElem?_range (by omega)] at this
      exact Option.some.inj this
    show lt (p.toList[a]) (p.toList[b]) = true
    rw [rk_iff irr tr tot h1 h3, ← hrat _ h1, ← hrat _ h3, ga, gb]
    exact decide_eq_true hab
end
open PySem PySem.W PyProof.Rows PySem.SeqAt
set_option maxRecDepth 100000
section
variable {prog : Program} {w : World} {A : Around} {E : Value → Shared → Prop} {s : Shared}
theorem rich_FD {v v' : Value} {d d' : FD} {Q : Value → Shared → Prop} (h : FIs v d) (h' : FIs v' d') (hk : sameKind d d') (hq : Q (.bool (ltFD d d')) s) : wpAny (model prog w) A (richCompare .Lt v v') Q E s := by
  cases d <;> cases d' <;> try exact hk.elim
  · obtain ⟨t, rfl⟩ := h
    obtain ⟨u, rfl⟩ := h'
    exact (lt_int hq : wpAny (model prog w) A (compareOp .Lt (.int _ t) (.int _ u)) Q E s)
  · obtain ⟨t, rfl⟩ := h
    obtain ⟨u, rfl⟩ := h'
    exact (lt_bytes hq : wpAny (model prog w) A (compareOp .Lt (.bytes _ t) (.bytes _ u)) Q E s)
theorem tuple_lt_tree {a b : Addr} {oa ob : Obj} {xs ys : List Value} {na nb : Nat} {ds es : List FD} {P : Fin → Shared → Prop} (hoa : s.heap.get? a = some oa) (hda : oa.data = .seq (List.toArray xs) na) (hob : s.heap.get? b = some ob) (hcb : ob.cls = .type "tuple") (hdb : ob.data = .seq (List.toArray ys) nb)
    (h1 : FAll xs ds) (h2 : FAll ys es) (hk : kindsAll ds es) (h : P (.done (.ret (.bool (ltL ds es)))) s) :
    wpAny (model prog w) A (Builtin.«tuple.__lt__» ⟨[.ref a, .ref b], []⟩) P E s := by
  have hTb : s.TypeIs (.ref b) "tuple" := ⟨_, hob, hcb⟩
  show wpAny _ _ (isInstance (.ref b) (.type "tuple") >>= _) _ _ s
  refine wpAny_bind (wpAny_isInstance hTb isSubtype_tuple_tuple ?_)
  simp only [Bool.not_true, Bool.false_eq_true, if_false]
  refine wpAny_bind (wpAny_tupleItemsOf hoa hda ?_)
  refine wpAny_bind (wpAny_tupleItemsOf hob hdb ?_)
  refine wpAny_bind ?_
  refine wpAny_forIn_list _
    (fun rest r s' => r.1 = none ∧ s' = s ∧ ∃ xs' ys' ds' es', rest = List.zip xs' ys' ∧ FAll xs' ds' ∧ FAll ys' es' ∧ kindsAll ds' es' ∧ ltL ds' es' = ltL ds es)
    _ ?_ ?_ _ _ ⟨rfl, rfl, xs, ys, ds, es, by simp, h1, h2, hk, rfl⟩
  · rintro ⟨u, v⟩ rest r s' ⟨hr, rfl, xs', ys', ds', es', hz, g1, g2, g3, g4⟩
    match xs', ys', ds', es', g1, g2, g3, g4, hz with
    | x :: xs', y :: ys', d :: ds', e :: es', g1, g2, g3, g4, hz =>
      simp only [List.zip_cons_cons, List.cons.injEq, Prod.mk.injEq] at hz
      obtain ⟨⟨rfl, rfl⟩, rfl⟩ := hz
      refine wpAny_bind (eqAt_FD (A := A) (s := s') g1.1 g2.1 g3.1 prog w _ _ ?_)
      rw [ltL] at g4
      by_cases hde : d = e
      · rw [decide_eq_true hde]
        rw [if_pos hde] at g4
        simp only [Bool.not_true, Bool.false_eq_true, if_false]
        exact wpAny_pure ⟨rfl, rfl, xs', ys', ds', es', rfl, g1.2, g2.2, g3.2, g4⟩
      · rw [decide_eq_false hde]
        rw [if_neg hde] at g4
        simp only [Bool.not_false, if_true]
        refine wpAny_bind (wpAny_rule ?_)
        refine wpAny_bind ?_
        refine rich_FD g1.1 g2.1 g3.1 ?_
        rw [g4]
        exact wpAny_bind (wpAny_pure (wpAny_pure (wpAny_pure h)))
    | [], _, _, _, _, _, _, _, hz => simp at hz
    | _ :: _, [], _, _, _, _, _, _, hz => simp at hz
    | _ :: _, _ :: _, [], _, g, _, _, _, _ => exact g.elim
    | _ :: _, _ :: _, _ :: _, [], _, g, _, _, _ => exact g.elim
  · rintro ⟨r1, r2⟩ s' ⟨hr, rfl, xs', ys', ds', es', hz, g1, g2, g3, g4⟩
    simp only at hr
    subst hr
    refine wpAny_pure ?_
    have hlen : xs.length = ys.length := by rw [h1.len, h2.len, hk.len]
    have hfin : decide ((List.toArray xs).size < (List.toArray ys).size) = ltL ds es := by
      have e0 : ltL ds' es' = false := by
        match xs', ys', ds', es', g1, g2, g3, hz with
        | [], [], [], [], _, _, _, _ => rfl
        | [], _ :: _, [], [], _, g, _, _ => exact g.elim
        | [], _, [], _ :: _, _, _, g, _ => exact g.elim
        | [], _, _ :: _, _, g, _, _, _ => exact g.elim
        | _ :: _, [], [], [], g, _, _, _ => exact g.elim
        | _ :: _, [], _ :: _, [], _, _, g, _ => exact g.elim
        | _ :: _, [], _, _ :: _, _, g, _, _ => exact g.elim
        | _ :: _, _ :: _, _, _, _, _, _, hz => simp at hz
      rw [← g4, e0]
      simp [hlen]
    show P (.done (.ret (.bool (decide ((List.toArray xs).size < (List.toArray ys).size))))) s'
    rw [hfin]; exact h
/-- one tuple below another -/
theorem lt_tuples {h₀ : Heap} {L a b : Addr} {news : List (Addr × Obj)} {vs ws : List Value} {ds es : List FD} {n m : Nat} {Q : Value → Shared → Prop} (N : News h₀ L s.heap news) (ma : (a, ({ cls := .type "tuple", data := .seq vs.toArray n } : Obj)) ∈ news) (mb : (b, ({ cls := .type "tuple", data := .seq ws.toArray m } : Obj)) ∈ news)
    (Fa : FAll vs ds) (Fb : FAll ws es) (K : kindsAll ds es) (hu : A.units < cLine) (h : Q (.bool (ltL ds es)) s) : wpAny (model prog w) A (compareOp .Lt (.ref a) (.ref b)) Q E s := by
  have ta : s.TypeIs (.ref a) "tuple" := ⟨_, (N _ ma).1, rfl⟩
  have tb : s.TypeIs (.ref b) "tuple" := ⟨_, (N _ mb).1, rfl⟩
  show wpAny _ _ (richCompare .Lt (.ref a) (.ref b)) _ _ _
  refine wpAny_richCompare_same_room ta tb F.slot_tuple_lt ?_ hu
  refine wpAny_call_entry F.slot_tuple_lt ta F.entry_tuple_lt ?_ (F.args_tuple_lt_2 _ _)
  exact tuple_lt_tree (N _ ma).1 rfl (N _ mb).1 rfl rfl Fa Fb K ⟨_, rfl, (fun x => nomatch x), h⟩
end
open PySem PySem.W PyProof.Rows PySem.SeqAt
set_option maxRecDepth 100000
section
variable {prog : Program} {w : World} {A : Around} {E : Value → Shared → Prop} {s : Shared} {h₀ : Heap} {L l : Addr} {m : Str → Option Value} {news : List (Addr × Obj)} {v : Value} {n : Nat} {Q : Value → Shared → Prop}
theorem sort_one {a : Addr} {n : Nat} {P : Fin → Shared → Prop} (ho : s.heap.get? a = some (seqObj "list" [v].toArray n)) (h : P (.done (.ret .none)) { s with heap := sortedHeap s.heap a [v] #[v] }) :
    wpAny (model prog w) A (Builtin.«list.sort» ⟨[.ref a], []⟩) P E s := by
  have ha : a < s.heap.objs.size := Heap.lt_size ho
  rw [list_sort_plain]
  refine wpAny_bind (listItems_at ho rfl ?_)
  refine wpAny_bind (listUpdate_at ho rfl ?_)
  obtain ⟨e1, ho1⟩ : ∃ e1, (s.heap.update a (Obj.mapSeq fun _ => #[])).get? a = some (seqObj "list" #[] e1) := ⟨_, get?_update_seq ho (fun _ => #[])⟩
  refine wpAny_bind (seqEpoch_at ho1 rfl ?_)
  refine wpAny_bind (wpAny_newTuple ?_)
  refine wpAny_bind (wpAny_newList ?_)
  refine wpAny_holding ?_
  have ho6 : (((s.heap.update a (Obj.mapSeq fun _ => #[])).push (seqObj "tuple" [v].toArray 0)).push (seqObj "list" #[] 0)).get? a = some (seqObj "list" #[] e1) :=
    Heap.get?_push_of_some _ (Heap.get?_push_of_some _ ho1)
  show wpAny (model prog w) A _ P E { s with heap := ((s.heap.update a (Obj.mapSeq fun _ => #[])).push (seqObj "tuple" [v].toArray 0)).push (seqObj "list" #[] 0) }
  dsimp only
  have h2 : [v].toArray.size < 2 := by simp
  have e8 : arrOf (SortSt.mk' general' (#[v].zip #[v]) #[] 7 none) = (#[v].zip #[v]) := rfl
  have e9 : Array.map (fun x : Keyed => x.2) (arrOf (SortSt.mk' general' (#[v].zip #[v]) #[] 7 none)) = #[v] := by rw [e8]; simp
  rw [if_pos h2, if_pos h2]
  refine wpAny_bind (wpAny_pure ?_)
  rw [StateT.run_pure]
  refine wpAny_bind (wpAny_pure ?_)
  dsimp only
  refine wpAny_bind (seqEpoch_at ho6 rfl ?_)
  refine wpAny_bind (listUpdate_at ho6 rfl ?_ (hsz2 := by rw [e9, sizeLine_eq]; exact (by decide : (1 : Nat) ≤ 16777217)))
  simp only [bne_self_eq_false, Bool.false_eq_true, if_false]
  rw [e9]
  exact wpAny_pure h
/-- sorted() of one -/
theorem sorted_one (F : Fr h₀ L s.heap m) (N : News h₀ L s.heap news) (hl : (l, ({ cls := .type "list", data := .seq [v].toArray n } : Obj)) ∈ news)
    (k : ∀ D c h', (∀ q ∈ news, q.1 < D) → Fr h₀ L h' m → News h₀ L h' ((D, listOf (List.toArray [v]) c) :: news) → Q (.ref D) { s with heap := h' }) :
    wpAny (model prog w) A (call (.builtin "sorted") [.ref l]) Q E s := by
  refine Calls.call_function_entry kind_sorted plain_sorted entry_sorted (args_sorted1 _) ?_
  unfold Builtin.«sorted»
  refine wpAny_bind (m := checkCount "sorted" 1 1 _) (wpAny_pure ?_)
  refine wpAny_bind (collect_list (vs := [v]) (News.isList N hl) ?_)
  refine wpAny_bind (wpAny_newList ?_)
  have hsz : ((s.heap.push (seqObj "list" #[] 0)).update s.heap.objs.size (Obj.mapSeq (· ++ [v].toArray))).objs.size = s.heap.objs.size + 1 := by
    rw [Heap.size_update, size_push']
  have hoL : (((s.heap.push (seqObj "list" #[] 0)).update s.heap.objs.size (Obj.mapSeq (· ++ [v].toArray))).push (seqObj "list" [v].toArray 0)).get? (s.heap.objs.size + 1) = some (seqObj "list" [v].toArray 0) := by
    rw [← hsz]; exact Heap.get?_push_size _ rfl
  show wpAny _ _ _ _ _ { s with heap := ((s.heap.push (seqObj "list" #[] 0)).update s.heap.objs.size (Obj.mapSeq (· ++ [v].toArray))).push (seqObj "list" [v].toArray 0) }
  rw [hsz]
  refine wpAny_bind (wpAny_holding (wpAny_call_entry slot_list_sort ⟨_, hoL, rfl⟩ entry_list_sort (sort_one hoL ⟨_, rfl, ?_⟩) (args_list_sort _)))
  refine wpAny_pure ⟨_, rfl, ?_⟩
  have keep : ∀ b o, s.heap.get? b = some o → (sortedHeap (((s.heap.push (seqObj "list" #[] 0)).update s.heap.objs.size (Obj.mapSeq (· ++ [v].toArray))).push (seqObj "list" [v].toArray 0)) (s.heap.objs.size + 1) [v] #[v]).get? b = some o := fun b o q => by
    have hlt : b < s.heap.objs.size := Heap.lt_size q
    unfold sortedHeap
    rw [Heap.get?_update_ne _ _ _ _ (Nat.ne_of_lt (Nat.lt_succ_of_lt hlt))]
    refine Heap.get?_push_of_some _ (Heap.get?_push_of_some _ ?_)
    rw [Heap.get?_update_ne _ _ _ _ (Nat.ne_of_lt (Nat.lt_succ_of_lt hlt))]
    refine Heap.get?_push_of_some _ ?_
    rw [Heap.get?_update_ne _ _ _ _ (Nat.ne_of_lt hlt)]
    exact Heap.get?_push_of_some _ q
  obtain ⟨c, hc⟩ : ∃ c, (sortedHeap (((s.heap.push (seqObj "list" #[] 0)).update s.heap.objs.size (Obj.mapSeq (· ++ [v].toArray))).push (seqObj "list" [v].toArray 0)) (s.heap.objs.size + 1) [v] #[v]).get? (s.heap.objs.size + 1) = some (listOf (List.toArray [v]) c) := by
    unfold sortedHeap
    exact ⟨_, get?_update_seq (Heap.get?_push_of_some _ (Heap.get?_push_of_some _ (get?_update_seq hoL fun _ => #[]))) fun _ => #[v]⟩
  refine k _ c _ (fun q hq => Nat.lt_succ_of_lt (Heap.lt_size (N q hq).1)) (F.kept keep) fun p hp => ?_
  rcases List.mem_cons.mp hp with rfl | hp
  · refine ⟨hc, Nat.ne_of_gt (Nat.lt_succ_of_lt F.ns.lt), Heap.get?_none_of_le (Nat.le_trans F.above (Nat.le_trans (Nat.le_of_lt F.ns.lt) (Nat.le_succ _)))⟩
  · exact (N.grown keep) p hp
end
open PySem PySem.W PyProof.Rows PyProof.Rows.LCg PyProof.Rows.LCt
set_option maxRecDepth 100000
/-! comprehensions of any length, by what holds between the turns -/
section
variable {prog : Program} {w : World} {A : Around} {s : Shared} {h₀ : Heap} {L : Addr} {m : Str → Option Value} {env : Env} {ct elt : Expr} {x : Str} {scope : Scope} {cl : List (Str × Addr)} {S : Led → Prop} {P : Nat → Value → Prop} {Fin : List Value → Led → Prop}
theorem CompEnd.mono {s₁ : Shared} {I C D : Addr} {oI oC oD : Obj} {rest rest' : Value → Led → Prop} {y : Value} {s₂ : Shared} (h : CompEnd h₀ L m s₁ I oI C oC D oD S rest y s₂) (hr : ∀ n, rest y n → rest' y n) : CompEnd h₀ L m s₁ I oI C oC D oD S rest' y s₂ := by
  obtain ⟨h', tk, news', a, b, c, d, e, f⟩ := h
  exact ⟨h', tk, news', a, b, c, d, e, hr _ f⟩
theorem compRest_inv (J : Nat → List Value → Led → Prop) (n : Nat)
    (step : ∀ i ys news v I oI C oC D m₂ h tk (E' : Value → Shared → Prop), i < n → J i ys news → P i v → NsObj oC m₂ → m₂ x = some v → Fr h₀ L h m → News h₀ L h ((I, oI) :: (C, oC) :: (D, lst ys) :: news) → Off3 I C D news → ((@Ne Nat I C) ∧ (@Ne Nat I D) ∧ (@Ne Nat C D)) →
      wpAny (model prog w) A (eval elt (compEnvC scope cl C env)) (CompEnd h₀ L m { s with heap := h, toks := tk } I oI C oC D (lst ys) S (fun y news' => J (i + 1) (ys ++ [y]) news')) E' { s with heap := h, toks := tk })
    (fin : ∀ ys news, J n ys news → Fin ys news) : ∀ k i ys news, i + k = n → J i ys news → CompRest prog w A h₀ L m env elt x scope cl s S P Fin k i ys news
  | 0, i, ys, news, hi, hJ => .zero (fin ys news (by rw [← hi, Nat.add_zero]; exact hJ))
  | k + 1, i, ys, news, hi, hJ => .succ fun v I oI C oC D m₂ h tk E' hP hN hx F N hO hne =>
    wpAny_mono (step i ys news v I oI C oC D m₂ h tk E' (by omega) hJ hP hN hx F N hO hne) (fun _ _ hc => CompEnd.mono hc fun n' hn => compRest_inv J n step fin k (i + 1) _ n' (by omega) hn) fun _ _ e => e
theorem compRestT_inv (J : Nat → List Value → Led → Prop) (n : Nat)
    (step : ∀ i ys news v I oI C oC D m₂ h tk (E' : Value → Shared → Prop), i < n → J i ys news → P i v → NsObj oC m₂ → m₂ x = some v → Fr h₀ L h m → News h₀ L h ((I, oI) :: (C, oC) :: (D, lst ys) :: news) → Off3 I C D news → ((@Ne Nat I C) ∧ (@Ne Nat I D) ∧ (@Ne Nat C D)) →
      wpAny (model prog w) A (isTrue ct (compEnvC scope cl C env) (eval ct (compEnvC scope cl C env))) (fun ok s' => if ok = true then
        wpAny (model prog w) A (eval elt (compEnvC scope cl C env)) (CompEnd h₀ L m { s with heap := h, toks := tk } I oI C oC D (lst ys) S (fun y news' => J (i + 1) (ys ++ [y]) news')) E' s'
        else CompEnd h₀ L m { s with heap := h, toks := tk } I oI C oC D (lst ys) S (fun _ news' => J (i + 1) ys news') Value.none s') E' { s with heap := h, toks := tk })
    (fin : ∀ ys news, J n ys news → Fin ys news) : ∀ k i ys news, i + k = n → J i ys news → CompRestT prog w A h₀ L m env ct elt x scope cl s S P Fin k i ys news
  | 0, i, ys, news, hi, hJ => .zero (fin ys news (by rw [← hi, Nat.add_zero]; exact hJ))
  | k + 1, i, ys, news, hi, hJ => .succ fun v I oI C oC D m₂ h tk E' hP hN hx F N hO hne =>
    wpAny_mono (step i ys news v I oI C oC D m₂ h tk E' (by omega) hJ hP hN hx F N hO hne) (fun ok s' hc => by
      cases ok with
      | true =>
        simp only [if_true] at hc ⊢
        exact wpAny_mono hc (fun _ _ hc => CompEnd.mono hc fun n' hn => compRestT_inv J n step fin k (i + 1) _ n' (by omega) hn) fun _ _ e => e
      | false =>
        simp only [Bool.false_eq_true, if_false] at hc ⊢
        exact CompEnd.mono hc fun n' hn => compRestT_inv J n step fin k (i + 1) _ n' (by omega) hn) fun _ _ e => e
end
open PySem PySem.W PyProof.Rows PySem.Spec
set_option hygiene false in
local macro_rules | `(tactic| walk_at "compareOp Eq ref ref") => `(tactic| ((with_reducible show wpAny _ _ (compareOp _ (Value.ref _) (Value.ref _)) _ _ _); k_dflt (refine' Mine.eq_tuples ?N ?ma ?mb ?Fa ?Fb ?K ?hu ?_; (case N => k_asm); (case ma => walk_at "mine tup"); (case mb => walk_at "mine tup"); (case Fa => walk_at "mine fall"); (case Fb => walk_at "mine fall"); (case K => walk_at "mine fall"); (case hu => ktr_units); k_whole)))
set_option hygiene false in
local macro_rules | `(tactic| walk_at "mine tup2") => `(tactic| (repeat (first | assumption | refine List.Mem.tail _ ?_)))
set_option hygiene false in
local macro_rules | `(tactic| walk_at "mine tup") => `(tactic| (first | assumption | k_mem | (repeat (first | exact List.Mem.head _ | refine List.Mem.tail _ ?_))))
set_option hygiene false in
local macro_rules | `(tactic| walk_at "mine fall") => `(tactic| (repeat (first | exact Mine.fall_nil | exact Mine.kinds_nil | refine Mine.fall_b ?_ | refine Mine.fall_i ?_ | refine Mine.kinds_b ?_ | refine Mine.kinds_i ?_)))
set_option hygiene false in
local macro_rules | `(tactic| walk_at "mine beginT") => `(tactic| (revert X XB; k_fill; intro X1 XB; refine wpAny_call ?_; k_dflt (refine' code_defS0 ?k1 ?k2 ?k3 ?k4 ?k5 ?kA ?k6 ?k7 ?k8 ?k9 ?kB ?_ ?cK ?c2 ?c3 ?c4 ?c5; (case kA => exact rfl); (case k2 => k_asm); (case k1 => k_asm); (case k3 => exact X1); (case k4 => k_asm); (case k5 => k_asm); (case k6 => k_is); (case k7 => k_is); (case k8 => ktr_room); (case k9 => exact BindsTo.of_eq rfl); (case kB => exact locs rfl); (case cK => assumption); (case c2 => exact rfl); (case c3 => exact rfl); (case c4 => exact rfl); (case c5 => decide); k_whole; intro g' L' h' FG' F' N' B' X' T' D'; (try dsimp only); (try k_fold))))
set_option hygiene false in
local macro_rules | `(tactic| walk_at "mine stepsE") => `(tactic| repeat' (first
  | ((fail_if_success (with_reducible show wpAny _ _ (exec (PySem.Stmt.While _ _ _ _) _) _ _ _)); (fail_if_success (with_reducible show wpAny _ _ (pyIter _) _ _ _)); (fail_if_success (with_reducible show wpAny _ _ (call (Value.ref (Mine.adr _ MN.first)) _) _ _ _)); (fail_if_success (with_reducible show wpAny _ _ (call (Value.ref (Mine.adr _ MN.last)) _) _ _ _)); (fail_if_success (with_reducible show wpAny _ _ (call (Value.ref (Mine.adr _ MN.seek)) _) _ _ _)); (fail_if_success (with_reducible show wpAny _ _ (call (Value.ref (Mine.adr _ MN.step)) _) _ _ _)); (fail_if_success (with_reducible show wpAny _ _ (call (Value.ref (Mine.adr _ MN.back)) _) _ _ _));
     (fail_if_success (with_reducible show wpAny _ _ (call (Value.ref 412) _) _ _ _)); (fail_if_success (with_reducible show wpAny _ _ (call (Value.ref 419) _) _ _ _)); (fail_if_success (with_reducible show wpAny _ _ (call (Value.ref 573) _) _ _ _)); (fail_if_success (with_reducible show wpAny _ _ (call (Value.ref 580) _) _ _ _)); (fail_if_success (with_reducible show wpAny _ _ (compareOp _ (Value.ref _) (Value.ref _)) _ _ _)); (fail_if_success (with_reducible show wpAny _ _ (call (Value.ref 461) _) _ _ _)); (fail_if_success (with_reducible show wpAny _ _ (call (Value.ref 468) _) _ _ _)); (fail_if_success (with_reducible show wpAny _ _ (call (Value.ref 475) _) _ _ _));
     (first | (k_unfold; (try dsimp only)) | walk1 | (dsimp only; walk1) | (leave1; walk_say "STEP leave1"; (try dsimp only)) | fail "no step"))))
section
variable {w : World} {dp un : Nat} {gd : Option (List Code)} {cn : Str} {cs : Scope} {a : Addr} {ccd : Value} {cl : List (Str × Addr)} {outer : List Env} {A₀ : Around} {base h₀ : Heap} {L : Addr} {m mg mb : Str → Option Value} {mean : ExcName → Option Value} {s : Shared} {rest : Led}
  {Q E : Value → Shared → Prop} {D : Nat} {C : CurP} {x : Row} {u du inner rl ta : Addr} {kd : Bool} {R : List Row} {fp : Led} {qu : UP} {upto : Int} {tg tsk tsv tpl t1 t2 : Tok} {lo hi : Option (Array UInt8)} {sk sv : Array UInt8} {vs : Array Value} {nv nR nt j : Nat}
set_option maxRecDepth 100000 in
set_option maxHeartbeats 8000000 in
theorem agreeC_on  (B : Below A₀ base outer h₀) (F : Fr h₀ L s.heap m) (X : (Mine.hd.heap_39 w.params).In h₀) (N : News h₀ L s.heap (fp ++ rest)) (T : Top VW (looseW VW []) mean mg mb h₀) (hk : cs.kind = .function) (hd : dp + (D + 8) < recursionLimit) (hu : un + 8 * (D + 8) < cLine)
    (S : CurSpec w D C) (hC : C fp rest inner kd R (some j)) (hx : R[j]? = some x) (hr : (rl, listOf vs nv) ∈ rest) (hvl : vs.size = nR) (hvn : nR ≤ 1000) (hjn : j < nR) (hta : vs[j]? = some (.ref ta)) (htu : (ta, tupObj [.bytes (ikb x.1) t1, .bytes x.2 t2] nt) ∈ rest) (k : ∀ h' tk', Fr h₀ L h' m → News h₀ L h' (fp ++ rest) → Q (.bool true) { s with heap := h', toks := tk' }) :
    wpAny (model Challenge.rw_no0415_01.row.prog w) (ktrTop dp un gd cn cs L a ccd cl outer) (call (.ref 683) [.ref inner, .ref rl, .int (j : Int) tpl]) Q E s := by
  have hta2 : vs[((j : Nat) : Int).toNat]? = some (.ref ta) := hta
  generalize eT : fp ++ rest = TT at *
  have hT : ∀ p ∈ fp, p ∈ TT := fun p hp => eT ▸ List.mem_append_left _ hp
  have hCT : C fp TT inner kd R (some j) := S.mono hC fun p hp => eT ▸ List.mem_append_right _ hp
  have q1 : (rl, listOf vs nv) ∈ TT := eT ▸ List.mem_append_right _ hr
  have q2 : (ta, tupObj [.bytes (ikb x.1) t1, .bytes x.2 t2] nt) ∈ TT := eT ▸ List.mem_append_right _ htu
  walk_at "mine begin"
  walk_at "mine stepsE"
  rename News _ _ _ _ => NN
  refine' eq_tuples (ds := [.b (ikb x.1), .b x.2]) (es := [.b (ikb x.1), .b x.2]) NN ?ma ?mb ?Fa ?Fb ?K ?hu ?_
  (case ma => exact List.Mem.head _)
  (case mb => walk_at "mine tup2")
  (case Fa => walk_at "mine fall")
  (case Fb => walk_at "mine fall")
  (case K => walk_at "mine fall")
  (case hu => ktr_units)
  walk_at "mine steps"
  (try subst eT)
  refine ret_val (k _ _ (by k_asm) (by walk_at "mine news")) ?_
  simp
set_option maxRecDepth 100000 in
set_option maxHeartbeats 8000000 in
theorem agreeU_on0 {j0 : Nat} (B : Below A₀ base outer h₀) (F : Fr h₀ L s.heap m) (X : (Mine.hd.heap_39 w.params).In h₀) (N : News h₀ L s.heap ((du, UD qu inner upto lo hi (0) tg true sk tsk sv tsv) :: (fp ++ rest))) (T : Top VW (looseW VW []) mean mg mb h₀) (hk : cs.kind = .function) (hd : dp + (D + 12) < recursionLimit) (hu : un + 8 * (D + 12) < cLine)
    (S : CurSpec w D C) (hC : C fp rest inner kd R (some j0)) (m1 : (u, instObj 611 du) ∈ rest) (hx : R[j0]? = some x) (hr : (rl, listOf vs nv) ∈ rest) (hvl : vs.size = nR) (hvn : nR ≤ 1000) (hjn : j < nR) (hta : vs[j]? = some (.ref ta)) (htu : (ta, tupObj [.bytes x.1.u t1, .bytes x.2 t2] nt) ∈ rest) (k : ∀ h' tk', Fr h₀ L h' m → News h₀ L h' ((du, UD qu inner upto lo hi (0) tg true sk tsk sv tsv) :: (fp ++ rest)) → Q (.bool true) { s with heap := h', toks := tk' }) :
    wpAny (model Challenge.rw_no0415_01.row.prog w) (ktrTop dp un gd cn cs L a ccd cl outer) (call (.ref 683) [.ref u, .ref rl, .int (j : Int) tpl]) Q E s := by
  have hta2 : vs[((j : Nat) : Int).toNat]? = some (.ref ta) := hta
  have hxo : x.1.Ok := S.ok hC _ (List.mem_of_getElem? hx)
  generalize eT : fp ++ rest = TT at N k
  have hT : ∀ p ∈ fp, p ∈ TT := fun p hp => eT ▸ List.mem_append_left _ hp
  have hCT : C fp TT inner kd R (some j0) := S.mono hC fun p hp => eT ▸ List.mem_append_right _ hp
  have q0 : (u, instObj 611 du) ∈ TT := eT ▸ List.mem_append_right _ m1
  have q1 : (rl, listOf vs nv) ∈ TT := eT ▸ List.mem_append_right _ hr
  have q2 : (ta, tupObj [.bytes x.1.u t1, .bytes x.2 t2] nt) ∈ TT := eT ▸ List.mem_append_right _ htu
  walk_at "mine begin"
  walk_at "mine stepsE"
  rename News _ _ _ _ => NN
  refine' eq_tuples (ds := [.b x.1.u, .b x.2]) (es := [.b x.1.u, .b x.2]) NN ?ma ?mb ?Fa ?Fb ?K ?hu ?_
  (case ma => exact List.Mem.head _)
  (case mb => walk_at "mine tup2")
  (case Fa => walk_at "mine fall")
  (case Fb => walk_at "mine fall")
  (case K => walk_at "mine fall")
  (case hu => ktr_units)
  walk_at "mine steps"
  (try subst eT)
  refine ret_val (k _ _ (by k_asm) (by walk_at "mine news")) ?_
  simp
set_option maxRecDepth 100000 in
set_option maxHeartbeats 8000000 in
theorem agreeU_on1  (B : Below A₀ base outer h₀) (F : Fr h₀ L s.heap m) (X : (Mine.hd.heap_39 w.params).In h₀) (N : News h₀ L s.heap ((du, UD qu inner upto lo hi (1) tg true sk tsk sv tsv) :: (fp ++ rest))) (T : Top VW (looseW VW []) mean mg mb h₀) (hk : cs.kind = .function) (hd : dp + (D + 12) < recursionLimit) (hu : un + 8 * (D + 12) < cLine)
    (m1 : (u, instObj 611 du) ∈ rest) (hr : (rl, listOf vs nv) ∈ rest) (hvl : vs.size = nR) (hvn : nR ≤ 1000) (hjn : j < nR) (hta : vs[j]? = some (.ref ta)) (htu : (ta, tupObj [.bytes sk t1, .bytes sv t2] nt) ∈ rest) (k : ∀ h' tk', Fr h₀ L h' m → News h₀ L h' ((du, UD qu inner upto lo hi (1) tg true sk tsk sv tsv) :: (fp ++ rest)) → Q (.bool true) { s with heap := h', toks := tk' }) :
    wpAny (model Challenge.rw_no0415_01.row.prog w) (ktrTop dp un gd cn cs L a ccd cl outer) (call (.ref 683) [.ref u, .ref rl, .int (j : Int) tpl]) Q E s := by
  have hta2 : vs[((j : Nat) : Int).toNat]? = some (.ref ta) := hta
  generalize eT : fp ++ rest = TT at N k
  have q0 : (u, instObj 611 du) ∈ TT := eT ▸ List.mem_append_right _ m1
  have q1 : (rl, listOf vs nv) ∈ TT := eT ▸ List.mem_append_right _ hr
  have q2 : (ta, tupObj [.bytes sk t1, .bytes sv t2] nt) ∈ TT := eT ▸ List.mem_append_right _ htu
  walk_at "mine begin"
  walk_at "mine stepsE"
  rename News _ _ _ _ => NN
  refine' eq_tuples (ds := [.b sk, .b sv]) (es := [.b sk, .b sv]) NN ?ma ?mb ?Fa ?Fb ?K ?hu ?_
  (case ma => exact List.Mem.head _)
  (case mb => walk_at "mine tup2")
  (case Fa => walk_at "mine fall")
  (case Fb => walk_at "mine fall")
  (case K => walk_at "mine fall")
  (case hu => ktr_units)
  walk_at "mine steps"
  (try subst eT)
  refine ret_val (k _ _ (by k_asm) (by walk_at "mine news")) ?_
  simp
end
open PySem PySem.W PyProof.Rows
/-! the told places, in a row -/
open Classical in
noncomputable def toldL (R : List Row) (upto : Int) (lo hi : Option (Array UInt8)) : List Nat := (List.range R.length).filter fun i => decide (∃ x, Told R upto lo hi i x)
section
variable {R : List Row} {upto : Int} {lo hi : Option (Array UInt8)}
open Classical in
theorem mem_toldL {i : Nat} : i ∈ toldL R upto lo hi ↔ ∃ x, Told R upto lo hi i x := by
  unfold toldL
  rw [List.mem_filter]
  constructor
  · exact fun h => of_decide_eq_true h.2
  · rintro ⟨x, h⟩
    exact ⟨List.mem_range.mpr (List.getElem?_eq_some_iff.mp h.here).1, decide_eq_true ⟨x, h⟩⟩
theorem toldL_sorted : (toldL R upto lo hi).Pairwise (· < ·) := List.Pairwise.sublist List.filter_sublist List.pairwise_lt_range
end
theorem count_cut (i : Nat) : ∀ {T : List Nat}, T.Pairwise (· < ·) → ∀ (q k : Nat), T[q]? = some k → (q < T.countP (fun t => decide (t < i)) ↔ k < i)
  | [], _, q, k, h => by simp at h
  | a :: T, hp, q, k, h => by
    have h1 := List.pairwise_cons.mp hp
    rw [List.countP_cons]
    by_cases ha : a < i
    · simp only [ha, decide_true, if_true]
      cases q with
      | zero => simp only [List.getElem?_cons_zero, Option.some.injEq] at h; subst h; simp [ha]
      | succ q =>
        rw [List.getElem?_cons_succ] at h
        have := count_cut i h1.2 q k h
        omega
    · have hz : T.countP (fun t => decide (t < i)) = 0 := by
        rw [List.countP_eq_zero]
        intro b hb
        have := h1.1 b hb
        simp only [decide_eq_true_eq]; omega
      rw [hz]
      simp only [ha, decide_false, Bool.false_eq_true, if_false, Nat.add_zero, Nat.not_lt_zero, false_iff]
      cases q with
      | zero => simp only [List.getElem?_cons_zero, Option.some.injEq] at h; subst h; exact ha
      | succ q =>
        rw [List.getElem?_cons_succ] at h
        have := h1.1 k (List.mem_of_getElem? h)
        omega
theorem sorted_index {T : List Nat} (hp : T.Pairwise (· < ·)) {q r a b : Nat} (h : T[q]? = some a) (g : T[r]? = some b) : a < b ↔ q < r := by
  rw [List.pairwise_iff_getElem] at hp
  obtain ⟨h1, h2⟩ := List.getElem?_eq_some_iff.mp h
  obtain ⟨g1, g2⟩ := List.getElem?_eq_some_iff.mp g
  constructor
  · intro hab
    apply Nat.lt_of_not_le
    intro hrq
    rcases Nat.lt_or_eq_of_le hrq with hlt | heq
    · have := hp r q g1 h1 hlt; omega
    · subst heq; rw [h] at g; cases g; omega
  · intro hqr
    have := hp q r h1 g1 hqr; omega
section
variable {R : List Row} {upto : Int} {lo hi : Option (Array UInt8)}
theorem first_at {i : Nat} {r : Option Nat} (h : FirstT R upto lo hi i r) : r = (toldL R upto lo hi)[(toldL R upto lo hi).countP fun t => decide (t < i)]? := by
  have cut := count_cut i (toldL_sorted (R := R) (upto := upto) (lo := lo) (hi := hi))
  cases hc : (toldL R upto lo hi)[(toldL R upto lo hi).countP fun t => decide (t < i)]? with
  | none =>
    cases r with
    | none => rfl
    | some j =>
      exfalso
      obtain ⟨h1, ⟨x, h2⟩, h3⟩ := h
      obtain ⟨q, hq⟩ := List.mem_iff_getElem?.mp (mem_toldL.mpr ⟨x, h2⟩)
      have a := cut q j hq
      have b := List.getElem?_eq_none_iff.mp hc
      have c := (List.getElem?_eq_some_iff.mp hq).1
      omega
  | some k =>
    have hk := cut _ k hc
    obtain ⟨y, hy⟩ := mem_toldL.mp (List.mem_of_getElem? hc)
    have hki : i ≤ k := by omega
    cases r with
    | none => exact absurd hy (h k y hki)
    | some j =>
      obtain ⟨h1, ⟨x, h2⟩, h3⟩ := h
      obtain ⟨q, hq⟩ := List.mem_iff_getElem?.mp (mem_toldL.mpr ⟨x, h2⟩)
      have a := cut q j hq
      have h4 : ¬ k < j := fun hkj => h3 k y hki hkj hy
      have h5 : ¬ j < k := fun hjk => by
        have := (sorted_index toldL_sorted hq hc).mp hjk
        omega
      rw [show j = k by omega]
theorem last_at {n : Nat} {r : Option Nat} (h : LastT R upto lo hi n r) : r = (befOf ((toldL R upto lo hi).countP fun t => decide (t < n))).bind fun q => (toldL R upto lo hi)[q]? := by
  have cut := count_cut n (toldL_sorted (R := R) (upto := upto) (lo := lo) (hi := hi))
  have hle := List.countP_le_length (p := fun t => decide (t < n)) (l := toldL R upto lo hi)
  unfold befOf
  by_cases hz : (toldL R upto lo hi).countP (fun t => decide (t < n)) = 0
  · rw [if_pos hz, Option.bind_none]
    cases r with
    | none => rfl
    | some j =>
      exfalso
      obtain ⟨h1, ⟨x, h2⟩, h3⟩ := h
      obtain ⟨q, hq⟩ := List.mem_iff_getElem?.mp (mem_toldL.mpr ⟨x, h2⟩)
      have a := cut q j hq
      omega
  · rw [if_neg hz, Option.bind_some]
    have hl : (toldL R upto lo hi).countP (fun t => decide (t < n)) - 1 < (toldL R upto lo hi).length := by omega
    have hc := List.getElem?_eq_getElem hl
    generalize (toldL R upto lo hi)[(toldL R upto lo hi).countP (fun t => decide (t < n)) - 1] = k at hc
    rw [hc]
    have hk := cut _ k hc
    obtain ⟨y, hy⟩ := mem_toldL.mp (List.mem_of_getElem? hc)
    have hkn : k < n := by omega
    cases r with
    | none => exact absurd hy (h k y hkn)
    | some j =>
      obtain ⟨h1, ⟨x, h2⟩, h3⟩ := h
      obtain ⟨q, hq⟩ := List.mem_iff_getElem?.mp (mem_toldL.mpr ⟨x, h2⟩)
      have a := cut q j hq
      have h4 : ¬ j < k := fun hjk => h3 k y hjk hkn hy
      have h5 : ¬ k < j := fun hkj => by
        have := (sorted_index toldL_sorted hc hq).mp hkj
        omega
      rw [show j = k by omega]
theorem count_next {p j : Nat} (h : (toldL R upto lo hi)[p]? = some j) : (toldL R upto lo hi).countP (fun t => decide (t < j + 1)) = p + 1 := by
  have cut := count_cut (j + 1) (toldL_sorted (R := R) (upto := upto) (lo := lo) (hi := hi))
  have hle := List.countP_le_length (p := fun t => decide (t < j + 1)) (l := toldL R upto lo hi)
  have a := cut p j h
  apply Nat.le_antisymm
  · apply Nat.le_of_not_lt
    intro hlt
    have hc := List.getElem?_eq_getElem (l := toldL R upto lo hi) (i := p + 1) (by omega)
    have b := cut _ _ hc
    have c := (sorted_index toldL_sorted h hc).mpr (by omega)
    omega
  · omega
theorem count_here {p j : Nat} (h : (toldL R upto lo hi)[p]? = some j) : (toldL R upto lo hi).countP (fun t => decide (t < j)) = p := by
  have cut := count_cut j (toldL_sorted (R := R) (upto := upto) (lo := lo) (hi := hi))
  have hle := List.countP_le_length (p := fun t => decide (t < j)) (l := toldL R upto lo hi)
  have hl := (List.getElem?_eq_some_iff.mp h).1
  have a := cut p j h
  apply Nat.le_antisymm
  · omega
  · apply Nat.le_of_not_lt
    intro hlt
    have hc := List.getElem?_eq_getElem (l := toldL R upto lo hi) (i := (toldL R upto lo hi).countP (fun t => decide (t < j))) (by omega)
    have b := cut _ _ hc
    have c := (sorted_index toldL_sorted hc h).mpr hlt
    omega
theorem count_zero : (toldL R upto lo hi).countP (fun t => decide (t < 0)) = 0 := by rw [List.countP_eq_zero]; simp
theorem count_all : (toldL R upto lo hi).countP (fun t => decide (t < R.length)) = (toldL R upto lo hi).length := by
  rw [List.countP_eq_length]
  intro a ha
  obtain ⟨x, hx⟩ := mem_toldL.mp ha
  simpa using (List.getElem?_eq_some_iff.mp hx.here).1
end
open PySem PySem.W PyProof.Rows
structure UFacts (R : List Row) (upto : Int) (lo hi : Option (Array UInt8)) : Prop where
  sorted : SortedR R
  kinds : KindsOk R
  up0 : 0 ≤ upto
  up1 : upto < 72057594037927936
  los : ∀ b, lo = some b → b.size ≤ 1000
  his : ∀ b, hi = some b → b.size ≤ 1000
def UPlace (R : List Row) (upto : Int) (lo hi : Option (Array UInt8)) (st : Option Nat) (going : Int) (good : Bool) (sk sv : Array UInt8) : Option Nat → Prop
  | none => good = false
  | some p => good = true ∧ ∃ j x, (toldL R upto lo hi)[p]? = some j ∧ R[j]? = some x ∧ ((going = 0 ∧ st = some j) ∨ (going = 1 ∧ sk = x.1.u ∧ sv = x.2 ∧ ∃ n, st = befOf n ∧ n ≤ j ∧ ∀ (k : Nat) y, n ≤ k → k < j → R[k]? = some y → ¬ y.1.seq ≤ upto))
/-- a user's iterator, on a row of what it tells -/
def UserS (C : CurP) (upto : Int) (lo hi : Option (Array UInt8)) (R : List Row) (fp rest : Led) (u : Addr) (p : Option Nat) : Prop :=
  ∃ (du inner : Addr) (kd : Bool) (q : UP) (st : Option Nat) (going : Int) (tg : Tok) (good : Bool) (sk : Array UInt8) (tsk : Tok) (sv : Array UInt8) (tsv : Tok) (fpi : Led),
    fp = (du, UD q inner upto lo hi going tg good sk tsk sv tsv) :: fpi ∧ C fpi rest inner kd R st ∧ (∀ x ∈ fpi, x.1 ≠ du) ∧ (u, instObj 611 du) ∈ rest ∧ UPlace R upto lo hi st going good sk sv p
def placeT (T : List Nat) (c : Nat) : Option Nat := if c < T.length then some c else none
def userAt (R : List Row) (i : Nat) : Array UInt8 := savedK R (some i)
section
variable {R : List Row} {upto : Int} {lo hi : Option (Array UInt8)}
theorem told_of {p j : Nat} {x : Row} (h : (toldL R upto lo hi)[p]? = some j) (hx : R[j]? = some x) : Told R upto lo hi j x := by
  obtain ⟨y, hy⟩ := mem_toldL.mp (List.mem_of_getElem? h)
  have := hy.here
  rw [hx] at this
  cases this
  exact hy
theorem made_f {i c : Nat} {r st : Option Nat} (h : FirstT R upto lo hi i r) (hc : (toldL R upto lo hi).countP (fun t => decide (t < i)) = c) (hst : ∀ j, r = some j → st = some j) (sk sv : Array UInt8) : UPlace R upto lo hi st 0 r.isSome sk sv (placeT (toldL R upto lo hi) c) := by
  have e := first_at h
  rw [hc] at e
  unfold placeT
  by_cases g : c < (toldL R upto lo hi).length
  · rw [if_pos g]
    rw [List.getElem?_eq_getElem g] at e
    subst e
    obtain ⟨x, hx⟩ := mem_toldL.mp (List.getElem_mem g)
    exact ⟨rfl, _, x, List.getElem?_eq_getElem g, hx.here, .inl ⟨rfl, hst _ rfl⟩⟩
  · rw [if_neg g]
    rw [List.getElem?_eq_none (by omega)] at e
    subst e
    rfl
theorem made_b {n c n2 : Nat} {r : Option Nat} (h : LastT R upto lo hi n r) (hc : (toldL R upto lo hi).countP (fun t => decide (t < n)) = c) (hstop : ∀ j, r = some j → n2 ≤ j ∧ ∀ (k : Nat) y, n2 ≤ k → k < j → R[k]? = some y → ¬ y.1.seq ≤ upto) :
    UPlace R upto lo hi (befOf n2) 1 r.isSome (savedK R r) (savedV R r) (befOf c) := by
  have e := last_at h
  rw [hc] at e
  have hle := List.countP_le_length (p := fun t => decide (t < n)) (l := toldL R upto lo hi)
  rw [hc] at hle
  unfold befOf at e ⊢
  by_cases g : c = 0
  · rw [if_pos g] at e ⊢
    subst e
    rfl
  · rw [if_neg g] at e ⊢
    rw [Option.bind_some] at e
    have hl : c - 1 < (toldL R upto lo hi).length := by omega
    have hg := List.getElem?_eq_getElem hl
    rw [hg] at e
    subst e
    obtain ⟨x, hx⟩ := mem_toldL.mp (List.getElem_mem hl)
    obtain ⟨s1, s2⟩ := hstop _ rfl
    exact ⟨rfl, _, x, hg, hx.here, .inr ⟨rfl, savedK_some hx.here, savedV_some hx.here, n2, rfl, s1, s2⟩⟩
theorem startOf_place {n : Nat} (h : n ≤ R.length) : startOf R (placeOf R n) = n := by
  unfold placeOf
  split
  · rfl
  · show R.length = n; omega
theorem lenOf_bef (n : Nat) : lenOf (befOf n) = n := by
  unfold befOf
  cases n with
  | zero => rfl
  | succ n => rfl
theorem LastT.extend {n j : Nat} {r : Option Nat} (h : LastT R upto lo hi n r) : ∀ d, j - n = d → n ≤ j → (∀ k, n ≤ k → k < j → ∀ x, ¬ Told R upto lo hi k x) → LastT R upto lo hi j r := by
  intro d
  induction d generalizing j with
  | zero =>
    intro hd hn _
    have : n = j := by omega
    subst this; exact h
  | succ d ih =>
    intro hd hn hk
    obtain ⟨j', rfl⟩ : ∃ j', j = j' + 1 := ⟨j - 1, by omega⟩
    exact (ih (j := j') (by omega) (by omega) fun k h1 h2 => hk k h1 (by omega)).pass (hk j' (by omega) (by omega))
theorem underLo_clamp (t : Array UInt8) : underLo lo (clampLo lo t) = false := by
  cases lo with
  | none => rfl
  | some l =>
    show ltB (if ltB t l = true then l else t) l = false
    cases h : ltB t l with
    | true => rw [if_pos rfl]; exact ltB_irrefl l
    | false => rw [if_neg (by decide)]; exact h
theorem count_seek (f : UFacts R upto lo hi) (t : Array UInt8) : (toldL R upto lo hi).countP (fun k => decide (k < ltLen R ⟨clampLo lo t, upto.toNat, 1⟩)) = (toldL R upto lo hi).countP fun k => ltB (userAt R k) t := by
  apply List.countP_congr
  intro k hk
  obtain ⟨x, hx⟩ := mem_toldL.mp hk
  have hu : userAt R k = x.1.u := savedK_some hx.here
  rw [hu, decide_eq_true_eq, ← ltLen_cut f.sorted _ hx.here, seek_vis f.kinds f.up0 (List.mem_of_getElem? hx.here) hx.vis]
  cases lo with
  | none => rfl
  | some l =>
    have hl : ltB x.1.u l = false := hx.low
    show ltB x.1.u (if ltB t l = true then l else t) = true ↔ _
    cases h : ltB t l with
    | false => rw [if_neg (by decide)]
    | true =>
      rw [if_pos rfl, hl]
      constructor
      · intro g; cases g
      · intro g
        have := ltB_trans g h
        rw [hl] at this; cases this
theorem seek_first_T (f : UFacts R upto lo hi) (t : Array UInt8) : FirstT R upto lo hi (ltLen R ⟨clampLo lo t, upto.toNat, 1⟩) (ffwd hi upto (R.drop (ltLen R ⟨clampLo lo t, upto.toNat, 1⟩)) (ltLen R ⟨clampLo lo t, upto.toNat, 1⟩) none) :=
  ff_spec f.sorted _ _ _ rfl (cond_seek f.sorted f.kinds f.up0 (underLo_clamp t))
theorem high_cut (f : UFacts R upto lo hi) (hok : ∀ x ∈ R, x.1.Ok) {h : Array UInt8} {k : Nat} {y : Row} (hy : R[k]? = some y) : k < ltLen R ⟨h, 72057594037927935, 1⟩ ↔ ltB y.1.u h = true := by
  rw [← ltLen_cut f.sorted _ hy, cmpI_lt]
  constructor
  · rintro (g | ⟨g1, g2⟩)
    · exact g
    · exfalso
      have a := (hok y (List.mem_of_getElem? hy)).q
      have a2 := (hok y (List.mem_of_getElem? hy)).k
      have b := f.kinds y (List.mem_of_getElem? hy)
      unfold IK.kind IK.tag at b
      have c : (⟨h, 72057594037927935, 1⟩ : IK).tag = (72057594037927935 : Int) * 256 + 1 := rfl
      rw [c] at g2
      unfold IK.tag at g2
      omega
  · exact .inl
end
open PySem PySem.W PyProof.Rows
section
set_option maxRecDepth 100000
set_option maxHeartbeats 8000000
variable {w : World} {D : Nat} {C : CurP} {R : List Row} {upto : Int} {lo hi : Option (Array UInt8)} {fp rest E0 : Led} {u : Addr} {p : Option Nat}
theorem off_user {fpi E0 : Led} {du : Addr} {od : Obj} (h : Off ((du, od) :: fpi) E0) (h2 : ∀ x ∈ fpi, x.1 ≠ du) : Off fpi E0 ∧ ∀ x ∈ fpi ++ E0, x.1 ≠ du := by
  refine ⟨fun a ha b hb => h a (.tail _ ha) b hb, fun x hx => ?_⟩
  rcases List.mem_append.mp hx with g | g
  · exact h2 x g
  · exact h _ (.head _) x g
theorem same_user {fpi fp' : Led} {du : Addr} {a b : Obj} (h : sameAdr fp' fpi) : sameAdr ((du, a) :: fp') ((du, b) :: fpi) := by
  unfold sameAdr at *; simp only [List.map_cons, h]
theorem ne_user {fpi fp' : Led} {du : Addr} (h : ∀ x ∈ fpi, x.1 ≠ du) (ha : sameAdr fp' fpi) : ∀ x ∈ fp', x.1 ≠ du := fun x hx => by
  have : x.1 ∈ fpi.map (·.1) := ha ▸ List.mem_map_of_mem hx
  obtain ⟨x', hx', e⟩ := List.mem_map.mp this
  rw [← e]; exact h x' hx'
theorem user_valid (hU : UserS C upto lo hi R fp rest u p) (hs : ∀ x ∈ rest, x ∈ E0) : Calls w (D + 10) 531 [.ref u] fp E0 fun r fp' => r = .bool p.isSome ∧ fp' = fp := by
  obtain ⟨du, inner, kd, q, st, going, tg, good, sk, tsk, sv, tsv, fpi, rfl, hC, hne, hin, hp⟩ := hU
  intro dp un gd cn cs a ccd cl outer A₀ base h₀ L m mg mb mean s Q E B F X N T hk hd hu k
  have hgood : good = p.isSome := by
    cases p with
    | none => exact hp
    | some p => exact hp.1
  refine uvalid_r (rest := E0) B F X N T hk (by omega) (by omega) (List.mem_append_right _ (hs _ hin)) fun h' tk' F' N' => k _ _ _ _ F' N' ⟨by rw [hgood], rfl⟩
theorem user_first (S : CurSpec w D C) (f : UFacts R upto lo hi) (hU : UserS C upto lo hi R fp rest u p) (hs : ∀ x ∈ rest, x ∈ E0) (ho : Off fp E0) :
    Calls w (D + 10) 552 [.ref u] fp E0 fun r fp' => r = .none ∧ sameAdr fp' fp ∧ UserS C upto lo hi R fp' rest u (placeT (toldL R upto lo hi) 0) := by
  obtain ⟨du, inner, kd, q, st, going, tg, good, sk, tsk, sv, tsv, fpi, rfl, hC, hne, hin, hp⟩ := hU
  obtain ⟨o1, o2⟩ := off_user ho hne
  intro dp un gd cn cs a ccd cl outer A₀ base h₀ L m mg mb mean s Q E B F X N T hk hd hu k
  refine ufirst_r (rest := E0) B F X N T hk (by omega) (by omega) (S.fix rest) ⟨hC, hs⟩ o1 o2 (hs _ hin) f.kinds f.up0 f.up1 f.los f.his fun fp' st' tgb tka tvb h' tk' F' N' ha hC' hst' => ?_
  refine k _ ((du, _) :: fp') _ _ F' N' ⟨rfl, same_user ha, du, inner, kd, q, st', 0, tgb, _, _, tka, _, tvb, fp', rfl, hC'.1, ne_user hne ha, hin, ?_⟩
  cases lo with
  | none =>
    have e0 : startOf R (firstPl R upto none) = 0 := by
      show startOf R (firstAt R) = 0
      rw [firstAt_eq, startOf_place (Nat.zero_le _)]
    rw [e0] at hst' ⊢
    exact made_f (ff_spec f.sorted _ _ _ rfl cond_zero) count_zero hst' _ _
  | some l =>
    have e0 : startOf R (firstPl R upto (some l)) = ltLen R ⟨l, upto.toNat, 1⟩ := by
      show startOf R (seekAt R _) = _
      rw [seekAt_eq, startOf_place (ltLen_le _ _)]
    have e1 : clampLo (some l) l = l := by
      show (if ltB l l = true then l else l) = l
      split <;> rfl
    have h1 := seek_first_T f l
    have h2 := count_seek f l
    rw [e1] at h1 h2
    rw [e0] at hst' ⊢
    refine made_f h1 (h2.trans ?_) hst' _ _
    rw [List.countP_eq_zero]
    intro i hi
    obtain ⟨x, hx⟩ := mem_toldL.mp hi
    rw [show userAt R i = x.1.u from savedK_some hx.here]
    have : ltB x.1.u l = false := hx.low
    rw [this]; decide
theorem user_seek {t : Array UInt8} {tt : Tok} (S : CurSpec w D C) (f : UFacts R upto lo hi) (ht : t.size ≤ 1000) (hU : UserS C upto lo hi R fp rest u p) (hs : ∀ x ∈ rest, x ∈ E0) (ho : Off fp E0) :
    Calls w (D + 10) 559 [.ref u, .bytes t tt] fp E0 fun r fp' => r = .none ∧ sameAdr fp' fp ∧ UserS C upto lo hi R fp' rest u (placeT (toldL R upto lo hi) ((toldL R upto lo hi).countP fun k => ltB (userAt R k) t)) := by
  obtain ⟨du, inner, kd, q, st, going, tg, good, sk, tsk, sv, tsv, fpi, rfl, hC, hne, hin, hp⟩ := hU
  obtain ⟨o1, o2⟩ := off_user ho hne
  intro dp un gd cn cs a ccd cl outer A₀ base h₀ L m mg mb mean s Q E B F X N T hk hd hu k
  refine useek_r (rest := E0) B F X N T hk (by omega) (by omega) (S.fix rest) ⟨hC, hs⟩ o1 o2 (hs _ hin) f.kinds f.up0 f.up1 f.los f.his ht fun fp' st' tgb tka tvb h' tk' F' N' ha hC' hst' => ?_
  refine k _ ((du, _) :: fp') _ _ F' N' ⟨rfl, same_user ha, du, inner, kd, q, st', 0, tgb, _, _, tka, _, tvb, fp', rfl, hC'.1, ne_user hne ha, hin, ?_⟩
  rw [seekAt_eq, startOf_place (ltLen_le _ _)] at hst' ⊢
  exact made_f (seek_first_T f t) (count_seek f t) hst' _ _
theorem user_last (S : CurSpec w D C) (f : UFacts R upto lo hi) (hU : UserS C upto lo hi R fp rest u p) (hs : ∀ x ∈ rest, x ∈ E0) (ho : Off fp E0) :
    Calls w (D + 10) 566 [.ref u] fp E0 fun r fp' => r = .none ∧ sameAdr fp' fp ∧ UserS C upto lo hi R fp' rest u (befOf (toldL R upto lo hi).length) := by
  obtain ⟨du, inner, kd, q, st, going, tg, good, sk, tsk, sv, tsv, fpi, rfl, hC, hne, hin, hp⟩ := hU
  obtain ⟨o1, o2⟩ := off_user ho hne
  intro dp un gd cn cs a ccd cl outer A₀ base h₀ L m mg mb mean s Q E B F X N T hk hd hu k
  refine ulast_r (rest := E0) B F X N T hk (by omega) (by omega) (S.fix rest) ⟨hC, hs⟩ o1 o2 (hs _ hin) f.kinds f.up0 f.up1 f.los f.his fun fp' tgb tka tvb h' tk' F' N' ha hC' => ?_
  refine k _ ((du, _) :: fp') _ _ F' N' ⟨rfl, same_user ha, du, inner, kd, q, _, 1, tgb, _, _, tka, _, tvb, fp', rfl, hC'.1, ne_user hne ha, hin, ?_⟩
  have key : ∀ n, lenOf (lastLen R hi) = n → n ≤ R.length → (∀ (k : Nat) y, k < n → R[k]? = some y → pastHi hi y.1.u = false) → (toldL R upto lo hi).countP (fun t => decide (t < n)) = (toldL R upto lo hi).length →
      UPlace R upto lo hi (befOf (fbwd lo upto R (lenOf (lastLen R hi)) none).2) 1 (fbwd lo upto R (lenOf (lastLen R hi)) none).1.isSome (savedK R (fbwd lo upto R (lenOf (lastLen R hi)) none).1) (savedV R (fbwd lo upto R (lenOf (lastLen R hi)) none).1) (befOf (toldL R upto lo hi).length) := by
    intro n e h1 h2 h3
    rw [e]
    have pb := fb_spec (hi := hi) (lo := lo) (upto := upto) f.sorted n none h1 h2 fun j h => nomatch h
    exact made_b (pb.no rfl) h3 pb.stop
  cases hi with
  | none =>
    refine key R.length ?_ (Nat.le_refl _) (fun _ _ _ _ => rfl) count_all
    show lenOf (lastAt R) = _
    rw [lastAt_eq, lenOf_bef]
  | some h =>
    have hle := ltLen_le R ⟨h, 72057594037927935, 1⟩
    have hcut : ∀ (k : Nat) y, R[k]? = some y → (k < ltLen R ⟨h, 72057594037927935, 1⟩ ↔ ltB y.1.u h = true) := fun k y hy => high_cut f (S.ok hC) hy
    refine key (ltLen R ⟨h, 72057594037927935, 1⟩) ?_ hle (fun k y hk hy => ?_) ?_
    · show lenOf (backOf R (seekAt R _)) = _
      rw [seekAt_eq, backOf_eq R hle, lenOf_bef]
    · exact pastF ((hcut k y hy).mp hk)
    · rw [List.countP_eq_length]
      intro i hi
      obtain ⟨x, hx⟩ := mem_toldL.mp hi
      rw [decide_eq_true_eq, hcut i x hx.here]
      have : (!ltB x.1.u h) = false := hx.high
      simpa using this
theorem user_step {p : Nat} (S : CurSpec w D C) (f : UFacts R upto lo hi) (hU : UserS C upto lo hi R fp rest u (some p)) (hs : ∀ x ∈ rest, x ∈ E0) (ho : Off fp E0) :
    Calls w (D + 10) 587 [.ref u] fp E0 fun r fp' => r = .none ∧ sameAdr fp' fp ∧ UserS C upto lo hi R fp' rest u (placeT (toldL R upto lo hi) (p + 1)) := by
  obtain ⟨du, inner, kd, q, st, going, tg, good, sk, tsk, sv, tsv, fpi, rfl, hC, hne, hin, rfl, j, x, hj, hx, hp⟩ := hU
  obtain ⟨o1, o2⟩ := off_user ho hne
  have hT := told_of hj hx
  have hjl := (List.getElem?_eq_some_iff.mp hx).1
  have hfT := ff_spec (hi := hi) f.sorted (R.drop (j + 1)) (j + 1) _ rfl (Cond.told (lo := lo) f.sorted hx hT.vis hT.low)
  intro dp un gd cn cs a ccd cl outer A₀ base h₀ L m mg mb mean s Q E B F X N T hk hd hu k
  rcases hp with ⟨rfl, rfl⟩ | ⟨rfl, rfl, rfl, n, rfl, hn, hinv⟩
  · refine ustep0_r (rest := E0) B F X N T hk (by omega) (by omega) (S.fix rest) ⟨hC, hs⟩ o1 o2 (hs _ hin) f.kinds f.up0 f.up1 f.los f.his hx fun fp' st' tgb tka tvb h' tk' F' N' ha hC' hst' => ?_
    refine k _ ((du, _) :: fp') _ _ F' N' ⟨rfl, same_user ha, du, inner, kd, q, st', 0, tgb, _, _, tka, _, tvb, fp', rfl, hC'.1, ne_user hne ha, hin, ?_⟩
    rw [nextAt_eq, startOf_place (by omega)] at hst' ⊢
    exact made_f hfT (count_next hj) hst' _ _
  · refine ustep1_r (rest := E0) B F X N T hk (by omega) (by omega) (S.fix rest) ⟨hC, hs⟩ o1 o2 (hs _ hin) f.kinds f.up0 f.up1 f.los f.his fun fp' st' tgb tka tvb h' tk' F' N' ha hC' hst' => ?_
    refine k _ ((du, _) :: fp') _ _ F' N' ⟨rfl, same_user ha, du, inner, kd, q, st', 0, tgb, _, _, tka, _, tvb, fp', rfl, hC'.1, ne_user hne ha, hin, ?_⟩
    have e0 : startOf R (stepPl R (befOf n)) = n := by
      unfold befOf
      cases n with
      | zero => show startOf R (firstAt R) = 0; rw [firstAt_eq, startOf_place (Nat.zero_le _)]
      | succ n => show startOf R (nextAt R n) = n + 1; rw [nextAt_eq, startOf_place (by omega)]
    rw [e0] at hst' ⊢
    have e1 := ff_hidden (R := R) (upto := upto) (hi := hi) (s := x.1.u) (j + 1 - n) n (j + 1) rfl (by omega) (by omega) fun k y h1 h2 hy => by
      have h3 := user_at f.sorted hy hx (by omega)
      refine ⟨?_, h3⟩
      cases e : pastHi hi y.1.u with
      | false => rfl
      | true => have := pastHi_mono e h3; rw [hT.high] at this; cases this
    rw [e1] at hst' ⊢
    exact made_f hfT (count_next hj) hst' _ _
theorem user_back {p : Nat} (S : CurSpec w D C) (f : UFacts R upto lo hi) (hU : UserS C upto lo hi R fp rest u (some p)) (hs : ∀ x ∈ rest, x ∈ E0) (ho : Off fp E0) :
    Calls w (D + 10) 594 [.ref u] fp E0 fun r fp' => r = .none ∧ sameAdr fp' fp ∧ UserS C upto lo hi R fp' rest u (befOf p) := by
  obtain ⟨du, inner, kd, q, st, going, tg, good, sk, tsk, sv, tsv, fpi, rfl, hC, hne, hin, rfl, j, x, hj, hx, hp⟩ := hU
  obtain ⟨o1, o2⟩ := off_user ho hne
  have hT := told_of hj hx
  have hjl := (List.getElem?_eq_some_iff.mp hx).1
  have hhi : ∀ (k : Nat) y, k < j → R[k]? = some y → pastHi hi y.1.u = false := fun k y hk hy => by
    cases e : pastHi hi y.1.u with
    | false => rfl
    | true => have := pastHi_mono e (user_at f.sorted hy hx (by omega)); rw [hT.high] at this; cases this
  intro dp un gd cn cs a ccd cl outer A₀ base h₀ L m mg mb mean s Q E B F X N T hk hd hu k
  rcases hp with ⟨rfl, rfl⟩ | ⟨rfl, rfl, rfl, n, rfl, hn, hinv⟩
  · refine uback0_r (rest := E0) B F X N T hk (by omega) (by omega) (S.fix rest) ⟨hC, hs⟩ o1 o2 (hs _ hin) f.kinds f.up0 f.up1 f.los f.his hx fun fp' tgb tka tvb h' tk' F' N' ha hC' => ?_
    refine k _ ((du, _) :: fp') _ _ F' N' ⟨rfl, same_user ha, du, inner, kd, q, _, 1, tgb, _, _, tka, _, tvb, fp', rfl, hC'.1, ne_user hne ha, hin, ?_⟩
    rw [lenOf_bef]
    have hle := skipb_le (R := R) x.1.u j
    have pb := fb_spec (hi := hi) (lo := lo) (upto := upto) f.sorted (skipb R x.1.u j) none (by omega) (fun k y h1 h2 => hhi k y (by omega) h2) fun j h => nomatch h
    refine made_b ((pb.no rfl).extend _ rfl hle fun k h1 h2 z hz => ?_) (count_here hj) pb.stop
    have h3 := skipb_over x.1.u j k z h1 h2 hz.here
    have h4 := user_at f.sorted hz.here hx (by omega)
    exact hT.newest k z h2 hz.here (ltB_conn h3 h4) hz.vis
  · refine uback1_r (rest := E0) B F X N T hk (by omega) (by omega) (S.fix rest) ⟨hC, hs⟩ o1 o2 (hs _ hin) f.kinds f.up0 f.up1 f.los f.his fun fp' tgb tka tvb h' tk' F' N' ha hC' => ?_
    refine k _ ((du, _) :: fp') _ _ F' N' ⟨rfl, same_user ha, du, inner, kd, q, _, 1, tgb, _, _, tka, _, tvb, fp', rfl, hC'.1, ne_user hne ha, hin, ?_⟩
    rw [lenOf_bef]
    have pb := fb_spec (hi := hi) (lo := lo) (upto := upto) f.sorted n none (by omega) (fun k y h1 h2 => hhi k y (by omega) h2) fun j h => nomatch h
    exact made_b ((pb.no rfl).extend _ rfl hn fun k h1 h2 z hz => hinv k z h1 h2 hz.here hz.vis) (count_here hj) pb.stop
end
open PySem PySem.W PyProof.Rows PySem.Spec
/-! what the law walks: a merged iterator or a user's -/
abbrev RowB := Array UInt8 × Array UInt8
def adrW : Bool → MN → Addr
  | true, m => adr true m
  | false, .valid => 531 | false, .key => 601 | false, .value => 608 | false, .first => 552 | false, .last => 566 | false, .seek => 559 | false, .step => 587 | false, .back => 594
def clsW : Bool → Addr | false => 611 | true => 506
def placeP (n : Nat) (place : Int) : Option Nat := if 0 ≤ place ∧ place < n then some place.toNat else none
def firstP (n : Nat) : Option Nat := if 0 < n then some 0 else none
def nextP (n p : Nat) : Option Nat := if p + 1 < n then some (p + 1) else none
structure RowsL (rest : Led) (rl : Addr) (rows : List RowB) (vs : Array Value) (n : Nat) : Prop where
  lst : (rl, listOf vs n) ∈ rest
  size : vs.size = rows.length
  small : rows.length ≤ 1000
  row : ∀ (i : Nat) (k v : Array UInt8), rows[i]? = some (k, v) → ∃ a t1 t2 n', vs[i]? = some (.ref a) ∧ (a, tupObj [.bytes k t1, .bytes v t2] n') ∈ rest
/-- a call from the law's own frame -/
def CallsL (w : World) (D : Nat) (f : Addr) (args : List Value) (fp rest : Led) (post : Value → Led → Prop) : Prop :=
  ∀ (dp un : Nat) (gd : Option (List Code)) (cn : Str) (cs : Scope) (a : Addr) (ccd : Value) (cl : List (Str × Addr)) (A₀ : Around) (base h₀ : Heap) (L : Addr) (m mg mb : Str → Option Value) (mean : ExcName → Option Value) (s : Shared) (Q E : Value → Shared → Prop),
    Below A₀ base [] h₀ → Fr h₀ L s.heap m → (Mine.hd.heap_39 w.params).In h₀ → News h₀ L s.heap (fp ++ rest) → Top VW (looseW VW []) mean mg mb h₀ → (Mine.hd.heap_39 w.params).In base → Top VW (looseW VW []) mean mg mb base → cs.kind = .function → dp + D < recursionLimit → un + 8 * D < cLine →
    (∀ r fp' h' tk', Fr h₀ L h' m → News h₀ L h' (fp' ++ rest) → post r fp' → Q r { s with heap := h', toks := tk' }) →
    wpAny (model Challenge.rw_no0415_01.row.prog w) (ktrTop dp un gd cn cs L a ccd cl []) (call (.ref f) args) Q E s
structure WkSpec (w : World) (D : Nat) (wk : Bool) (rows : List RowB) (W : Led → Led → Addr → Option Nat → Prop) : Prop where
  mono : ∀ {fp rest rest' c p}, W fp rest c p → (∀ x ∈ rest, x ∈ rest') → W fp rest' c p
  obj : ∀ {fp rest c p}, W fp rest c p → ∃ dx es n, (c, instObj (clsW wk) dx) ∈ rest ∧ (dx, dictOf es n) ∈ fp ∧ ∀ mn : MN, getL mn.name es = some none
  size : ∀ {fp rest c p}, W fp rest c p → ∀ i, p = some i → i < rows.length
  first : ∀ {fp rest E0 c p}, W fp rest c p → (∀ x ∈ rest, x ∈ E0) → Off fp E0 → Calls w D (adrW wk .first) [.ref c] fp E0 fun r fp' => r = .none ∧ sameAdr fp' fp ∧ W fp' rest c (firstP rows.length)
  last : ∀ {fp rest E0 c p}, W fp rest c p → (∀ x ∈ rest, x ∈ E0) → Off fp E0 → Calls w D (adrW wk .last) [.ref c] fp E0 fun r fp' => r = .none ∧ sameAdr fp' fp ∧ W fp' rest c (befOf rows.length)
  step : ∀ {fp rest E0 c p}, W fp rest c (some p) → (∀ x ∈ rest, x ∈ E0) → Off fp E0 → Calls w D (adrW wk .step) [.ref c] fp E0 fun r fp' => r = .none ∧ sameAdr fp' fp ∧ W fp' rest c (nextP rows.length p)
  back : ∀ {fp rest E0 c p}, W fp rest c (some p) → (∀ x ∈ rest, x ∈ E0) → Off fp E0 → Calls w D (adrW wk .back) [.ref c] fp E0 fun r fp' => r = .none ∧ sameAdr fp' fp ∧ W fp' rest c (befOf p)
  agree : ∀ {fp rest E0 c rl vs n place tp}, W fp rest c (placeP rows.length place) → (∀ x ∈ rest, x ∈ E0) → Off fp E0 → RowsL E0 rl rows vs n → CallsL w (D + 12) 683 [.ref c, .ref rl, .int place tp] fp E0 fun r fp' => r = .bool true ∧ fp' = fp
def MergeW (C : CurP) (R : List Row) : Led → Led → Addr → Option Nat → Prop := fun fp rest c p => MergeC C fp rest c true R p
theorem placeP_some {n p : Nat} {place : Int} (h : placeP n place = some p) : place = (p : Int) ∧ p < n := by
  unfold placeP at h
  split at h
  · cases h; omega
  · cases h
theorem placeP_none {n : Nat} {place : Int} (h : placeP n place = none) : place < 0 ∨ (0 ≤ place ∧ (n : Int) ≤ place) := by
  unfold placeP at h
  split at h
  · cases h
  · omega
section
set_option maxRecDepth 100000
set_option maxHeartbeats 8000000
variable {w : World} {D : Nat} {C : CurP} {R : List Row} {upto : Int} {lo hi : Option (Array UInt8)}
theorem mergeW_spec (S : CurSpec w D C) : WkSpec w (D + 16) true (R.map fun x => (ikb x.1, x.2)) (MergeW C R) where
  mono := fun h hs => (merge_spec S).mono h hs
  obj := fun h => (merge_spec S).obj h
  size := fun h i hi => by rw [List.length_map]; exact ((merge_spec S).size h).2 i hi
  first := fun h hs ho => by
    have := (merge_spec S).first h hs ho
    rw [firstAt_eq] at this
    unfold firstP
    rw [List.length_map]
    exact this
  last := fun h hs ho => by
    have := (merge_spec S).last h hs ho
    rw [lastAt_eq] at this
    rw [List.length_map]
    exact this
  step := fun h hs ho => by
    have := (merge_spec S).step h hs ho
    unfold nextP
    rw [List.length_map]
    exact this
  back := fun h hs ho => (merge_spec S).back h hs ho
  agree := by
    intro fp rest E0 c rl vs n place tp h hs ho hr
    intro dp un gd cn cs a ccd cl A₀ base h₀ L m mg mb mean s Q E B F X N T XB TB hk hd hu k
    have hsm := hr.small
    cases hp : placeP (R.map fun x => (ikb x.1, x.2)).length place with
    | none =>
      rw [hp] at h
      obtain ⟨_, dx, ch, tpp, o, q, cv, nc, tops, nt, ks, Z, cur, tc, going, tg, rfl, h3, h4, h5⟩ := h
      have hc : cur = -1 := h5
      subst hc
      refine agreeM_off (rest := (tpp, listOf tops nt) :: (kfps ks ++ E0)) B F X N T XB TB hk (by omega) (by omega) (.tail _ (List.mem_append_right _ (hs _ h3.inst))) (fun p hp => ?_) (.tail _ (List.mem_append_right _ hr.lst)) hr.size hsm (placeP_none hp) fun h' tk' F' N' => k _ _ _ _ F' N' ⟨rfl, rfl⟩
      rcases List.mem_cons.mp hp with rfl | g
      · exact fun e => h3.off3 e.symm
      · exact (h3.offs ho p g).1
    | some j =>
      rw [hp] at h
      obtain ⟨rfl, hj⟩ := placeP_some hp
      have hj2 : j < R.length := by rwa [List.length_map] at hj
      have hx := List.getElem?_eq_getElem hj2
      obtain ⟨ta, t1, t2, n', e1, e2⟩ := hr.row j (ikb (R[j]).1) (R[j]).2 (by rw [List.getElem?_map, hx]; rfl)
      exact agreeC_on (rest := E0) B F X N T hk (by omega) (by omega) (merge_spec S) ((merge_spec S).mono h hs) hx hr.lst hr.size hsm hj e1 e2 fun h' tk' F' N' => k _ _ _ _ F' N' ⟨rfl, rfl⟩
noncomputable def toldRows (R : List Row) (upto : Int) (lo hi : Option (Array UInt8)) : List RowB := (toldL R upto lo hi).map fun i => (savedK R (some i), savedV R (some i))
theorem userW_spec (S : CurSpec w D C) (f : UFacts R upto lo hi) : WkSpec w (D + 12) false (toldRows R upto lo hi) (UserS C upto lo hi R) where
  mono := by
    rintro fp rest rest' c p ⟨du, inner, kd, q, st, going, tg, good, sk, tsk, sv, tsv, fpi, h1, h2, h3, h4, h5⟩ hs
    exact ⟨du, inner, kd, q, st, going, tg, good, sk, tsk, sv, tsv, fpi, h1, S.mono h2 hs, h3, hs _ h4, h5⟩
  obj := by
    rintro fp rest c p ⟨du, inner, kd, q, st, going, tg, good, sk, tsk, sv, tsv, fpi, rfl, h2, h3, h4, h5⟩
    exact ⟨du, _, _, h4, .head _, fun mn => by cases mn <;> rfl⟩
  size := by
    rintro fp rest c p ⟨du, inner, kd, q, st, going, tg, good, sk, tsk, sv, tsv, fpi, rfl, h2, h3, h4, h5⟩ i rfl
    obtain ⟨_, j, x, hj, _⟩ := h5
    unfold toldRows
    rw [List.length_map]
    exact (List.getElem?_eq_some_iff.mp hj).1
  first := fun h hs ho => by
    intro dp un gd cn cs a ccd cl outer A₀ base h₀ L m mg mb mean s Q E B F X N T hk hd hu k
    refine user_first S f h hs ho dp un gd cn cs a ccd cl outer A₀ base h₀ L m mg mb mean s Q E B F X N T hk (by omega) (by omega) fun r fp' h' tk' F' N' g => k r fp' h' tk' F' N' ⟨g.1, g.2.1, ?_⟩
    unfold firstP toldRows
    rw [List.length_map]
    exact g.2.2
  last := fun h hs ho => by
    intro dp un gd cn cs a ccd cl outer A₀ base h₀ L m mg mb mean s Q E B F X N T hk hd hu k
    refine user_last S f h hs ho dp un gd cn cs a ccd cl outer A₀ base h₀ L m mg mb mean s Q E B F X N T hk (by omega) (by omega) fun r fp' h' tk' F' N' g => k r fp' h' tk' F' N' ⟨g.1, g.2.1, ?_⟩
    unfold toldRows
    rw [List.length_map]
    exact g.2.2
  step := fun h hs ho => by
    intro dp un gd cn cs a ccd cl outer A₀ base h₀ L m mg mb mean s Q E B F X N T hk hd hu k
    refine user_step S f h hs ho dp un gd cn cs a ccd cl outer A₀ base h₀ L m mg mb mean s Q E B F X N T hk (by omega) (by omega) fun r fp' h' tk' F' N' g => k r fp' h' tk' F' N' ⟨g.1, g.2.1, ?_⟩
    unfold nextP toldRows
    rw [List.length_map]
    exact g.2.2
  back := fun h hs ho => by
    intro dp un gd cn cs a ccd cl outer A₀ base h₀ L m mg mb mean s Q E B F X N T hk hd hu k
    exact user_back S f h hs ho dp un gd cn cs a ccd cl outer A₀ base h₀ L m mg mb mean s Q E B F X N T hk (by omega) (by omega) fun r fp' h' tk' F' N' g => k r fp' h' tk' F' N' g
  agree := by
    rintro fp rest E0 c rl vs n place tp ⟨du, inner, kd, q, st, going, tg, good, sk, tsk, sv, tsv, fpi, rfl, hC, h3, h4, h5⟩ hs ho hr
    obtain ⟨o1, o2⟩ := off_user ho h3
    intro dp un gd cn cs a ccd cl A₀ base h₀ L m mg mb mean s Q E B F X N T XB TB hk hd hu k
    have hsm := hr.small
    cases hp : placeP (toldRows R upto lo hi).length place with
    | none =>
      rw [hp] at h5
      have hg : good = false := h5
      subst hg
      exact agreeU_off (rest := fpi ++ E0) B F X N T XB TB hk (by omega) (by omega) (List.mem_append_right _ (hs _ h4)) o2 (List.mem_append_right _ hr.lst) hr.size hsm (placeP_none hp) fun h' tk' F' N' => k _ _ _ _ F' N' ⟨rfl, rfl⟩
    | some j =>
      rw [hp] at h5
      obtain ⟨rfl, hj⟩ := placeP_some hp
      obtain ⟨rfl, i, x, hi, hx, hcase⟩ := h5
      obtain ⟨ta, t1, t2, n', e1, e2⟩ := hr.row j x.1.u x.2 (by
        unfold toldRows
        rw [List.getElem?_map, hi]
        show some (savedK R (some i), savedV R (some i)) = _
        rw [savedK_some hx, savedV_some hx])
      rcases hcase with ⟨rfl, rfl⟩ | ⟨rfl, rfl, rfl, _⟩
      · exact agreeU_on0 (rest := E0) B F X N T hk (by omega) (by omega) S (S.mono hC hs) (hs _ h4) hx hr.lst hr.size hsm hj e1 e2 fun h' tk' F' N' => k _ _ _ _ F' N' ⟨rfl, rfl⟩
      · exact agreeU_on1 (D := D) (rest := E0) B F X N T hk (by omega) (by omega) (hs _ h4) hr.lst hr.size hsm hj e1 e2 fun h' tk' F' N' => k _ _ _ _ F' N' ⟨rfl, rfl⟩
end
open PySem PySem.W PyProof.Rows PySem.Spec
/-- the law's numbers -/
structure NumsIn (rest : Led) (nl : Addr) (vs : Array Value) (n : Nat) (k : Nat) : Prop where
  lst : (nl, listOf vs n) ∈ rest
  size : vs.size = k
  pos : 0 < k
  small : k ≤ 12
  num : ∀ (i : Nat) v, vs[i]? = some v → ∃ x t, v = .int x t ∧ 0 ≤ x ∧ x < 999983
section
variable {w : World} {dp un : Nat} {gd : Option (List Code)} {cn : Str} {cs : Scope} {a : Addr} {ccd : Value} {cl : List (Str × Addr)} {outer : List Env} {A₀ : Around} {base h₀ : Heap} {L : Addr} {m mg mb : Str → Option Value} {mean : ExcName → Option Value} {s : Shared} {rest : Led}
  {Q E : Value → Shared → Prop} {nl : Addr} {vs : Array Value} {n kk : Nat} {i : Int} {ti : Tok}
set_option maxRecDepth 100000 in
set_option maxHeartbeats 8000000 in
theorem draw_r  (B : Below A₀ base outer h₀) (F : Fr h₀ L s.heap m) (X : (Mine.hd.heap_39 w.params).In h₀) (N : News h₀ L s.heap (rest)) (T : Top VW (looseW VW []) mean mg mb h₀) (hk : cs.kind = .function) (hd : dp + 1 < recursionLimit) (hu : un + 8 < cLine)
    (hn : NumsIn rest nl vs n kk) (h0 : 0 ≤ i) (h1 : i ≤ 20) (k : ∀ z t' h' tk', Fr h₀ L h' m → News h₀ L h' (rest) → 0 ≤ z ∧ z < 2000000 → Q (.int z t') { s with heap := h', toks := tk' }) :
    wpAny (model Challenge.rw_no0415_01.row.prog w) (ktrTop dp un gd cn cs L a ccd cl outer) (call (.ref 657) [.ref nl, .int i ti]) Q E s := by
  have hl := hn.lst
  have hsz := hn.size
  have hp := hn.pos
  have hs := hn.small
  have hb1 : 0 ≤ i.fmod (kk : Int) := Int.fmod_nonneg_of_pos _ (by omega)
  have hb2 : i.fmod (kk : Int) < (kk : Int) := Int.fmod_lt_of_pos _ (by omega)
  have hb3 : 0 ≤ i.fdiv (kk : Int) := Int.fdiv_nonneg h0 (by omega)
  have hb4 : i.fdiv (kk : Int) ≤ 20 := by
    have := Int.mul_fdiv_add_fmod i (kk : Int)
    have h5 : (i.fdiv (kk : Int)) ≤ (kk : Int) * i.fdiv (kk : Int) := by
      have : (1 : Int) * i.fdiv (kk : Int) ≤ (kk : Int) * i.fdiv (kk : Int) := Int.mul_le_mul_of_nonneg_right (by omega) hb3
      omega
    omega
  obtain ⟨x, t, hx, hx0, hx1⟩ : ∃ x t, vs[(i.fmod (kk : Int)).toNat]? = some (.int x t) ∧ 0 ≤ x ∧ x < 999983 := by
    have hlt : (i.fmod (kk : Int)).toNat < vs.size := by omega
    obtain ⟨x, t, e, a, b⟩ := hn.num _ _ (Array.getElem?_eq_getElem hlt)
    exact ⟨x, t, by rw [Array.getElem?_eq_getElem hlt, e], a, b⟩
  walk_at "mine begin"
  walk_at "mine steps"
  all_goals (first | exact k _ _ _ _ (by k_asm) (by walk_at "mine news") (by omega))
end
open PySem PySem.W PyProof.Rows PySem.Spec
def seqOk (q : Nat) : Prop := q = 1 ∨ q = 2 ∨ q = 3 ∨ q = 255 ∨ q = 1099511627776
def l8 (q k : Nat) : List Int := [(k : Int), ((q % 256 : Nat) : Int), 0, 0, 0, 0, ((q / 1099511627776 : Nat) : Int), 0]
theorem l8_tag (u : Array UInt8) {q k : Nat} (h : seqOk q) : u ++ byteArr (l8 q k) = ikb ⟨u, q, k⟩ := by
  unfold ikb IK.ints
  rw [byteArr_app, byteArr_bInts]
  have e : l8 q k = tagL q k := by rcases h with rfl | rfl | rfl | rfl | rfl <;> simp [l8, tagL]
  rw [e]
theorem l8_in {q k : Nat} (h : seqOk q) (hk : k ≤ 1) : KBa.In (l8 q k) := by
  intro n hn
  simp only [l8, List.mem_cons, List.not_mem_nil, or_false] at hn
  rcases h with rfl | rfl | rfl | rfl | rfl <;> omega
theorem l8_mod (q : Nat) : ((q : Int)).fmod 256 = ((q % 256 : Nat) : Int) := by rw [Int.fmod_eq_emod_of_nonneg _ (by decide)]; omega
theorem l8_div (q : Nat) : ((q : Int)).fdiv 1099511627776 = ((q / 1099511627776 : Nat) : Int) := by rw [Int.fdiv_eq_ediv_of_nonneg _ (by decide)]; omega
section
variable {w : World} {dp un : Nat} {gd : Option (List Code)} {cn : Str} {cs : Scope} {a : Addr} {ccd : Value} {cl : List (Str × Addr)} {outer : List Env} {A₀ : Around} {base h₀ : Heap} {L : Addr} {m mg mb : Str → Option Value} {mean : ExcName → Option Value} {s : Shared} {rest : Led}
  {Q E : Value → Shared → Prop} {u : Array UInt8} {q kd : Nat} {t0 t1 t2 : Tok}
set_option maxRecDepth 100000 in
set_option maxHeartbeats 8000000 in
theorem lik_r  (B : Below A₀ base outer h₀) (F : Fr h₀ L s.heap m) (X : (Mine.hd.heap_39 w.params).In h₀) (N : News h₀ L s.heap (rest)) (T : Top VW (looseW VW []) mean mg mb h₀) (hk : cs.kind = .function) (hd : dp + 1 < recursionLimit) (hu : un + 8 < cLine)
    (hq : seqOk q) (hkd : kd ≤ 1) (hu2 : u.size ≤ 1000) (k : ∀ t' h' tk', Fr h₀ L h' m → News h₀ L h' (rest) → Q (.bytes (ikb ⟨u, q, kd⟩) t') { s with heap := h', toks := tk' }) :
    wpAny (model Challenge.rw_no0415_01.row.prog w) (ktrTop dp un gd cn cs L a ccd cl outer) (call (.ref 664) [.bytes u t0, .int (q : Int) t1, .int (kd : Int) t2]) Q E s := by
  rw [← l8_tag u hq] at k
  have hin := l8_in hq hkd
  unfold l8 at hin k
  rw [← l8_mod, ← l8_div] at hin k
  walk_at "mine begin"
  walk_at "mine steps"
  all_goals (first | exact k _ _ _ (by k_asm) (by walk_at "mine news"))
end
open PySem PySem.W PyProof.Rows PySem.Spec
set_option hygiene false in
local macro_rules | `(tactic| walk_at "call builtin:list.append") => `(tactic| ((with_reducible show wpAny _ _ (call (Value.builtin "list.append") [Value.ref _, _]) _ _ _); k_dflt (refine' Mine.app_list ?F ?N ?U ?Z ?_; (case F => k_asm); (case N => k_asm); (case U => k_upd); (case Z => omega); k_whole; intro h' F' N'; (try k_sweep))))
set_option hygiene false in
local macro_rules | `(tactic| k_all) => `(tactic| (first | assumption | exact Mine.all_nil | (refine' Mine.all_cons ?xx ?yy; (case xx => k_ne); (case yy => k_all))))
set_option hygiene false in
local macro_rules | `(tactic| walk_at "mine make") => `(tactic| ((rename Frag.In _ _ => X1); revert X1; k_fill; intro X1; k_dflt (refine' call_cls ?k1 ?k2 ?k3 ?k4 ?k5 ?k6 ?_; (case k1 => k_asm); (case k2 => k_asm); (case k3 => k_asm); (case k4 => k_is); (case k5 => k_is); (case k6 => k_is); k_whole; intro x' d' h' F' N' l1 l2; (try k_lt l1); (try k_lt2 l2); (try k_sweep); ktr_enter)))
theorem For_F {prog : Program} {w : World} {A : Around} {s : Shared} {env : Env} {E : Value → Shared → Prop} {Q : Flow → Shared → Prop} {x : Str} {px pos : Pos} {iter : Expr} {body : List Stmt} {h₀ : Heap} {m : Str → Option Value} (_F : Fr h₀ env.locals s.heap m) (hx : env.kindOf x = some .local)
    (hp : (env.scope.kind == .class || (env.scope.kind == .module && env.locals != env.globals)) = false)
    (h : wpAny (model prog w) A (eval iter env) (fun xv s₁ => wpAny (model prog w) A (pyIter xv) (fun it s₂ => LoopAtV prog w A h₀ env x body Q E it s₂) E s₁) E s)
    (hs : ∀ x, foldedSetIterable iter env x = pure x := by intro _; rfl)
    (hE : PassesOwn (model prog w) A env E := by passes_own) :
    wpAny (model prog w) A (exec (.For (.Name x px) iter body [] pos) env) Q E s := For_invV h₀ hx hp h hs hE
theorem allLt_mem {d : Nat} : ∀ {l : Led}, AllLt d l → ∀ p ∈ l, @LT.lt Nat _ p.1 d
  | [], _, p, hp => by cases hp
  | q :: r, h, p, hp => by
    rcases List.mem_cons.mp hp with rfl | hp
    · exact h.1
    · exact allLt_mem h.2 p hp
section
variable {w : World} {dp un : Nat} {gd : Option (List Code)} {cn : Str} {cs : Scope} {a : Addr} {ccd : Value} {cl : List (Str × Addr)} {outer : List Env} {A₀ : Around} {base h₀ : Heap} {L : Addr} {m mg mb : Str → Option Value} {mean : ExcName → Option Value} {s : Shared} {rest : Led}
  {Q E : Value → Shared → Prop} {pl od : Addr} {vs : Array Value} {n : Nat}
set_option maxRecDepth 100000 in
set_option maxHeartbeats 8000000 in
theorem minit_r  (B : Below A₀ base outer h₀) (F : Fr h₀ L s.heap m) (X : (Mine.hd.heap_39 w.params).In h₀) (N : News h₀ L s.heap (rest)) (T : Top VW (looseW VW []) mean mg mb h₀) (hk : cs.kind = .function) (hd : dp + 2 < recursionLimit) (hu : un + 16 < cLine)
    (hl : (pl, listOf vs n) ∈ rest) (hn : vs.size ≤ 1000) (k : ∀ x dx ch tp q tc tg cv nc tops nt h' tk', Fr h₀ L h' m → News h₀ L h' ((x, instObj 506 dx) :: (dx, MD q ch tp od (-1) tc 0 tg) :: (ch, listOf cv nc) :: (tp, listOf tops nt) :: rest) → cv = vs → tops.size = vs.size → (x ≠ dx ∧ x ≠ ch ∧ x ≠ tp ∧ dx ≠ ch ∧ dx ≠ tp ∧ ch ≠ tp) → (∀ p ∈ rest, p.1 ≠ x ∧ p.1 ≠ dx ∧ p.1 ≠ ch ∧ p.1 ≠ tp) → Q (.ref x) { s with heap := h', toks := tk' }) :
    wpAny (model Challenge.rw_no0415_01.row.prog w) (ktrTop dp un gd cn cs L a ccd cl outer) (call (.ref 506) [.ref pl, .ref od]) Q E s := by
  walk_at "mine make"
  walk_at "mine steps"
  rename Fr _ _ _ _ => FF
  rename News _ _ _ _ => NN
  rename _ < _ ∧ _ < _ ∧ _ < _ ∧ AllLt _ rest => lb
  rename _ < _ ∧ _ < _ ∧ AllLt _ rest => la
  refine' For_F FF rfl rfl ?_
  walk_at "mine steps"
  refine iter_listJ (items := vs) (n := n) (fun i m₁ news₁ => m₁ "self" = some (.ref x') ∧ m₁ "order" = some (.ref od) ∧ ∃ (ch tp : Addr) (t1 t2 : Tok) (cv tops : Array Value) (nc nt : Nat), @LT.lt Nat _ x' ch ∧ @LT.lt Nat _ d' ch ∧ AllLt ch rest ∧ @LT.lt Nat _ ch tp ∧ @LT.lt Nat _ x' tp ∧ @LT.lt Nat _ d' tp ∧ AllLt tp rest ∧ cv.toList = vs.toList.take i ∧ tops.size = i ∧
    news₁ = (tp, listOf tops nt) :: (ch, listOf cv nc) :: (x', instObj 506 d') :: (d', dictOf [⟨PyData.keyHash w.params (Str.ofString "children"), .str "children" t1, .ref ch⟩, ⟨PyData.keyHash w.params (Str.ofString "tops"), .str "tops" t2, .ref tp⟩] 2) :: rest) rfl FF NN ?hl ⟨rfl, rfl, _, _, _, _, _, _, _, _, la.1, la.2.1, la.2.2, lb.1, lb.2.1, lb.2.2.1, lb.2.2.2, by simp, rfl, rfl⟩ ?turn ?done
  case hl =>
    rintro i m' nw ⟨_, _, ch, tp, t1, t2, cv, tops, nc, nt, _, _, _, _, _, _, _, _, _, rfl⟩
    exact .tail _ (.tail _ (.tail _ (.tail _ hl)))
  case turn =>
    clear FF NN la lb
    rintro i v m₁ news₁ h tk I o hv ⟨e1, e2, ch, tp, t1, t2, cv, tops, nc, nt, a1, a2, a3, a4, a5, a6, a7, a8, a9, rfl⟩ hne F₁ N₁
    have hi : i < vs.size := (Array.getElem?_eq_some_iff.mp hv).1
    have hI1 : @Ne Nat tp I := hne _ (.head _)
    have hI2 : @Ne Nat ch I := hne _ (.tail _ (.head _))
    have hI3 : @Ne Nat x' I := hne _ (.tail _ (.tail _ (.head _)))
    have hI4 : @Ne Nat d' I := hne _ (.tail _ (.tail _ (.tail _ (.head _))))
    have f1 : ∀ p ∈ rest, p.1 ≠ ch := fun p hp => Nat.ne_of_lt (allLt_mem a3 p hp)
    have f2 : ∀ p ∈ rest, p.1 ≠ tp := fun p hp => Nat.ne_of_lt (allLt_mem a7 p hp)
    have f3 : ∀ p ∈ rest, p.1 ≠ d' := fun p hp => Nat.ne_of_lt (l1 p hp)
    have f4 : ∀ p ∈ rest, p.1 ≠ x' := fun p hp => Nat.ne_of_lt (Nat.lt_trans (l1 p hp) l2)
    have hcz : cv.size = i := by
      have := congrArg List.length a8
      simpa [Nat.min_eq_left (Nat.le_of_lt hi)] using this
    walk_at "mine steps"
    rename Fr _ _ _ _ => FF
    rename News _ _ _ _ => NN
    refine TurnJ.next (.inl rfl) FF NN (.head _) (fun p hp => .tail _ hp) (fun p hp => ?_) ⟨e1, e2, ch, tp, t1, t2, cv.push v, tops.push .none, nc + 1, nt + 1, a1, a2, a3, a4, a5, a6, a7, ?_, by simp [a9], rfl⟩
    · rcases List.mem_cons.mp hp with rfl | hp
      · exact hI1
      · rcases List.mem_cons.mp hp with rfl | hp
        · exact hI2
        · exact hne p (.tail _ (.tail _ hp))
    · have hv2 : vs.toList[i]? = some v := by simpa using hv
      rw [List.take_add_one, hv2, Array.toList_push, a8]
      rfl
  case done =>
    clear FF NN la lb
    rintro m₁ news₁ h tk ⟨e1, e2, ch, tp, t1, t2, cv, tops, nc, nt, a1, a2, a3, a4, a5, a6, a7, a8, a9, rfl⟩ F₁ N₁
    have f1 : ∀ p ∈ rest, p.1 ≠ ch := fun p hp => Nat.ne_of_lt (allLt_mem a3 p hp)
    have f2 : ∀ p ∈ rest, p.1 ≠ tp := fun p hp => Nat.ne_of_lt (allLt_mem a7 p hp)
    have f3 : ∀ p ∈ rest, p.1 ≠ d' := fun p hp => Nat.ne_of_lt (l1 p hp)
    have f4 : ∀ p ∈ rest, p.1 ≠ x' := fun p hp => Nat.ne_of_lt (Nat.lt_trans (l1 p hp) l2)
    walk_at "mine steps"
    rename Fr _ _ _ _ => FF
    rename News _ _ _ _ => NN
    obtain ⟨tc, tg, q, NN2⟩ : ∃ (tc tg : Tok) (q : MP), News _ _ _ ((tp, listOf tops nt) :: (ch, listOf cv nc) :: (x', instObj 506 d') :: (d', MD q ch tp od (-1) tc 0 tg) :: rest) := ⟨_, _, ⟨_, _, _, _, _, _, _, _, _, _⟩, NN⟩
    refine k x' d' ch tp q tc tg cv nc tops nt _ _ FF (news_of NN2 fun p hp => ?_) (Array.toList_inj.mp (by rw [a8, List.take_of_length_le (by simp)])) a9 ⟨?_, ?_, ?_, ?_, ?_, ?_⟩ (fun p hp => ⟨f4 p hp, f3 p hp, f1 p hp, f2 p hp⟩)
    · rcases List.mem_cons.mp hp with rfl | hp
      · exact .tail _ (.tail _ (.head _))
      · rcases List.mem_cons.mp hp with rfl | hp
        · exact .tail _ (.tail _ (.tail _ (.head _)))
        · rcases List.mem_cons.mp hp with rfl | hp
          · exact .tail _ (.head _)
          · rcases List.mem_cons.mp hp with rfl | hp
            · exact .head _
            · exact .tail _ (.tail _ (.tail _ (.tail _ hp)))
    · exact (Nat.ne_of_lt l2).symm
    · exact Nat.ne_of_lt a1
    · exact Nat.ne_of_lt a5
    · exact Nat.ne_of_lt a2
    · exact Nat.ne_of_lt a6
    · exact Nat.ne_of_lt a4
end
open PySem PySem.W PyProof.Rows PySem.Spec
section
variable {w : World} {dp un : Nat} {gd : Option (List Code)} {cn : Str} {cs : Scope} {a : Addr} {ccd : Value} {cl : List (Str × Addr)} {outer : List Env} {A₀ : Around} {base h₀ : Heap} {L : Addr} {m mg mb : Str → Option Value} {mean : ExcName → Option Value} {s : Shared} {rest : Led}
  {Q E : Value → Shared → Prop} {rl od inner : Addr} {vs : Array Value} {n : Nat} {upto : Int} {tu tl th : Tok} {lo hi : Option (Array UInt8)}
set_option maxRecDepth 100000 in
set_option maxHeartbeats 8000000 in
theorem linit_r  (B : Below A₀ base outer h₀) (F : Fr h₀ L s.heap m) (X : (Mine.hd.heap_39 w.params).In h₀) (N : News h₀ L s.heap (rest)) (T : Top VW (looseW VW []) mean mg mb h₀) (hk : cs.kind = .function) (hd : dp + 2 < recursionLimit) (hu : un + 16 < cLine)
     (k : ∀ x dx q t h' tk', Fr h₀ L h' m → News h₀ L h' ((x, instObj 380 dx) :: (dx, LD q rl od (-1) t) :: rest) → x ≠ dx → (∀ p ∈ rest, p.1 ≠ x ∧ p.1 ≠ dx) → Q (.ref x) { s with heap := h', toks := tk' }) :
    wpAny (model Challenge.rw_no0415_01.row.prog w) (ktrTop dp un gd cn cs L a ccd cl outer) (call (.ref 380) [.ref rl, .ref od]) Q E s := by
  walk_at "mine make"
  walk_at "mine steps"
  rename Fr _ _ _ _ => FF
  rename News _ _ _ _ => NN
  obtain ⟨t, q, NN2⟩ : ∃ (t : Tok) (q : LP), News _ _ _ ((x', instObj 380 d') :: (d', LD q rl od (-1) t) :: rest) := ⟨_, ⟨_, _, _, _, _, _⟩, NN⟩
  exact k x' d' q t _ _ FF NN2 (Nat.ne_of_lt l2).symm (fun p hp => ⟨Nat.ne_of_lt (Nat.lt_trans (l1 p hp) l2), Nat.ne_of_lt (l1 p hp)⟩)
set_option maxRecDepth 100000 in
set_option maxHeartbeats 8000000 in
theorem uinit_r  (B : Below A₀ base outer h₀) (F : Fr h₀ L s.heap m) (X : (Mine.hd.heap_39 w.params).In h₀) (N : News h₀ L s.heap (rest)) (T : Top VW (looseW VW []) mean mg mb h₀) (hk : cs.kind = .function) (hd : dp + 2 < recursionLimit) (hu : un + 16 < cLine)
     (k : ∀ x dx q tg tk1 tv1 h' tk', Fr h₀ L h' m → News h₀ L h' ((x, instObj 611 dx) :: (dx, UD q inner upto lo hi 0 tg false #[] tk1 #[] tv1) :: rest) → x ≠ dx → (∀ p ∈ rest, p.1 ≠ x ∧ p.1 ≠ dx) → Q (.ref x) { s with heap := h', toks := tk' }) :
    wpAny (model Challenge.rw_no0415_01.row.prog w) (ktrTop dp un gd cn cs L a ccd cl outer) (call (.ref 611) [.ref inner, .int upto tu, .ref od, bndV lo tl, bndV hi th]) Q E s := by
  walk_at "mine make"
  walk_at "mine steps"
  rename Fr _ _ _ _ => FF
  rename News _ _ _ _ => NN
  obtain ⟨tg, ta, tb, q, NN2⟩ : ∃ (tg ta tb : Tok) (q : UP), News _ _ _ ((x', instObj 611 d') :: (d', UD q inner upto lo hi 0 tg false #[] ta #[] tb) :: rest) := ⟨_, _, _, ⟨_, _, _, _, _, _, _, _, _, _, _, _, _, _, _, _, tu, tl, th⟩, NN⟩
  exact k x' d' q tg ta tb _ _ FF NN2 (Nat.ne_of_lt l2).symm (fun p hp => ⟨Nat.ne_of_lt (Nat.lt_trans (l1 p hp) l2), Nat.ne_of_lt (l1 p hp)⟩)
end
end Mine
namespace Mine
open PySem PySem.W PyProof.Rows PySem.Spec
set_option maxRecDepth 100000
/-! the law's own statements and names, read from the row (never typed) -/
def lastBody (l : List Stmt) : List Stmt := match l.getLast? with | some (.FunctionDef _ _ b _ _ _ _ _ _ _) => b | _ => []
def lastScope (l : List Stmt) : Scope := match l.getLast? with | some (.FunctionDef _ _ _ _ _ _ sc _ _ _) => sc | _ => default
def lawB : List Stmt := lastBody PySem.Challenge.pw_no0415_01.main.body
def lawSc : Scope := lastScope PySem.Challenge.pw_no0415_01.main.body
def lawTail (n : Nat) : List Stmt := lawB.drop n
def lawAt (n : Nat) : Stmt := (lawTail n).head!
def forBody : Stmt → List Stmt | .For _ _ b _ _ => b | _ => []
def forIter : Stmt → Expr | .For _ i _ _ _ => i | _ => default
def lawBody (n j : Nat) : Stmt := ((forBody (lawAt n)).drop j).head!
theorem lawTail_len : lawB.length = 22 := rfl
theorem lawTail_cons21 : ∃ a, lawTail 21 = [a] := ⟨_, rfl⟩
theorem lawTail_at5 : lawTail 5 = lawAt 5 :: lawTail 6 := rfl
open PySem PySem.W PyProof.Rows PySem.Spec
set_option maxRecDepth 100000
/-! an item of a table at an open place: only what all items share is handed on -/
section
variable {prog : Program} {w : World} {A : Around} {E : Value → Shared → Prop} {s : Shared} {h₀ : Heap} {L : Addr} {news : Led}
theorem item_P (P : Value → Prop) {value slice : Expr} {l : Addr} {items : Array Value} {n : Nat} {k : Int} {u : Tok} {Q : Value → Shared → Prop} (N : News h₀ L s.heap news) (hm : (l, listOf items n) ∈ news)
    (h0 : 0 ≤ k) (h1 : k < (items.size : Int)) (hz : items.size ≤ 1000) (hall : ∀ v ∈ items.toList, P v) (h : ∀ v, P v → Q v s)
    (hs : subscripted slice false (.ref l) (.int k u) = operate [.ref l, .int k u] (getItem (.ref l) (.int k u)) := by with_unfolding_all rfl) :
    wpAny (model prog w) A (subscriptTail value slice (.ref l) (.int k u)) Q E s := by
  have hlt : k.toNat < items.size := by omega
  exact item_list N hm h0 (by omega) (Array.getElem?_eq_getElem hlt) (h _ (hall _ (Array.mem_toList_iff.mpr (Array.getElem_mem hlt)))) hs
end
def usersL : List (Array UInt8) := [#[], #[97], #[97, 0], #[98]]
def SeqV (v : Value) : Prop := ∃ (q : Nat) (t : Tok), v = .int (q : Int) t ∧ seqOk q
def TgtV (v : Value) : Prop := ∃ (b : Array UInt8) (t : Tok), v = .bytes b t ∧ b.size ≤ 8
def UsrV (v : Value) : Prop := ∃ (b : Array UInt8) (t : Tok), v = .bytes b t ∧ b ∈ usersL
def LimV (v : Value) : Prop := ∃ (z : Int) (t : Tok), v = .int z t ∧ 0 ≤ z ∧ z ≤ 1099511627776
def BndV (v : Value) : Prop := ∃ (o : Option (Array UInt8)) (t : Tok), v = bndV o t ∧ ∀ b, o = some b → b.size ≤ 8
theorem all_P0 {P : Value → Prop} : ∀ v ∈ ([] : List Value), P v := fun _ h => nomatch h
theorem all_P1 {P : Value → Prop} {a : Value} {l : List Value} (h : P a) (g : ∀ v ∈ l, P v) : ∀ v ∈ a :: l, P v := fun v hv => by
  rcases List.mem_cons.mp hv with rfl | hv
  · exact h
  · exact g v hv
theorem seqV1 {t : Tok} : SeqV (.int 1 t) := ⟨1, t, rfl, by unfold seqOk; omega⟩
theorem seqV2 {t : Tok} : SeqV (.int 2 t) := ⟨2, t, rfl, by unfold seqOk; omega⟩
theorem seqV3 {t : Tok} : SeqV (.int 3 t) := ⟨3, t, rfl, by unfold seqOk; omega⟩
theorem seqV4 {t : Tok} : SeqV (.int 255 t) := ⟨255, t, rfl, by unfold seqOk; omega⟩
theorem seqV5 {t : Tok} : SeqV (.int 1099511627776 t) := ⟨1099511627776, t, rfl, by unfold seqOk; omega⟩
theorem limV {z : Int} {t : Tok} (h : 0 ≤ z) (g : z ≤ 1099511627776) : LimV (.int z t) := ⟨z, t, rfl, h, g⟩
theorem tgtV {b : Array UInt8} {t : Tok} (h : b.size ≤ 8) : TgtV (.bytes b t) := ⟨b, t, rfl, h⟩
theorem usrV {b : Array UInt8} {t : Tok} (h : b ∈ usersL) : UsrV (.bytes b t) := ⟨b, t, rfl, h⟩
theorem bndV0 : BndV .none := ⟨none, 0, rfl, fun _ h => nomatch h⟩
theorem bndV1 {b : Array UInt8} {t : Tok} (h : b.size ≤ 8) : BndV (.bytes b t) := ⟨some b, t, rfl, fun _ h' => by cases h'; exact h⟩
open PySem PySem.W PyProof.Rows PySem.SeqAt
set_option maxRecDepth 100000
/-! t[:b] of a tuple -/
section
variable {prog : Program} {w : World} {A : Around} {E : Value → Shared → Prop} {s : Shared}
theorem adjust_to (b n : Nat) (hb : b ≤ n) : Builtin.Slice.sliceAdjust none (some (b : Int)) 1 (n : Int) = ((0 : Int), (b : Int)) := by
  unfold Builtin.Slice.sliceAdjust
  have h1 : ¬ ((1 : Int) < 0) := by omega
  have h2 : ¬ ((b : Int) < 0) := by omega
  simp only [h1, h2, if_false]
  congr 1
  omega
theorem places_to (b : Nat) : Builtin.Slice.slicePlaces (0 : Int) (b : Int) 1 = b := by
  unfold Builtin.Slice.slicePlaces
  have h1 : (1 : Int) > 0 := by omega
  simp only [h1, if_true, Int.ediv_one]
  split <;> omega
theorem sliceApplied_to {sl : Addr} {b n : Nat} {u : Tok} {Q : Int × Int × Nat → Shared → Prop} (hs : s.heap.IsSliceOf sl .none (.int b u) .none) (hb : b ≤ n) (h : Q ((0 : Int), 1, b) s) :
    wpAny (model prog w) A (Builtin.Slice.sliceApplied (.ref sl) (pure (n : Int))) Q E s := by
  obtain ⟨os, hos, hcs, hds⟩ := id hs
  unfold Builtin.Slice.sliceApplied Builtin.Slice.sliceFields
  refine wpAny_bind (wpAny_bind (wpAny_field hos hds (x := .none) rfl (wpAny_bind (wpAny_field hos hds (x := .int b u) rfl (wpAny_bind (wpAny_field hos hds (x := .none) rfl (wpAny_pure ?_)))))))
  refine wpAny_bind (slicePart_none ?_)
  show wpAny _ _ (if ((1 : Int) == 0) = true then _ else _) _ _ s
  rw [if_neg (by decide)]
  refine wpAny_bind (slicePart_none (wpAny_bind (slicePart_int (wpAny_bind (wpAny_pure ?_)))))
  show wpAny _ _ (match Builtin.Slice.sliceAdjust none (some (b : Int)) 1 (n : Int) with | (lo, hi) => pure (lo, (1 : Int), Builtin.Slice.slicePlaces lo hi 1)) _ _ s
  rw [adjust_to b n hb]
  show wpAny _ _ (pure ((0 : Int), (1 : Int), Builtin.Slice.slicePlaces (0 : Int) (b : Int) 1)) _ _ s
  rw [places_to b]
  exact wpAny_pure h
theorem pick_to (xs : Array Value) (b : Nat) (hb : b ≤ xs.size) : ((List.range b).filterMap fun (k : Nat) => xs[((0 : Int) + (k : Int) * 1).toNat]?).toArray = (xs.toList.take b).toArray := by
  have e : (fun (k : Nat) => xs[((0 : Int) + (k : Int) * 1).toNat]?) = fun k => xs[k]? := by
    funext k
    have : ((0 : Int) + (k : Int) * 1).toNat = k := by omega
    rw [this]
  rw [e]
  congr 1
  induction b with
  | zero => rfl
  | succ b ih =>
    rw [List.range_succ, List.filterMap_append, ih (by omega)]
    have h1 : xs[b]? = some xs[b] := Array.getElem?_eq_getElem (by omega)
    rw [List.filterMap_cons, h1]
    show _ ++ [xs[b]] = _
    rw [List.take_add_one]
    congr 1
    rw [Array.getElem?_toList, h1]
    rfl
theorem getItem_tuple_to {t sl : Addr} {items : Array Value} {b : Nat} {u : Tok} {Q : Value → Shared → Prop} (ht : IsTup s.heap t items) (hs : s.heap.IsSliceOf sl .none (.int b u) .none) (hb : b < items.size)
    (h : Q (.ref s.heap.objs.size) { s with heap := s.heap.push { cls := .type "tuple", data := .seq (items.toList.take b).toArray } })
    (hsz : items.size ≤ sizeLine) : wpAny (model prog w) A (getItem (.ref t) (.ref sl)) Q E s := by
  have hdrop : sizeOk (.seq (items.toList.take b).toArray) := by
    show (items.toList.take b).toArray.size ≤ sizeLine
    rw [List.size_toArray, List.length_take, Array.length_toList]
    omega
  obtain ⟨os, hos, hcs, hds⟩ := id hs
  have hTs : s.TypeIs (.ref sl) "slice" := ⟨os, hos, hcs⟩
  unfold getItem
  try with_reducible refine wpAny_holding ?_
  first | refine wpAny_bind (wpAny_pure ?_) | skip
  refine wpAny_bind (wpAny_sequenceKey ht.typeIs (by decide) ?_)
  refine wpAny_bind (wpAny_callSpecial?_slot (name := Str.ofString "__getitem__") ht.typeIs slot_tuple_getitem
    (wpAny_call_entry slot_tuple_getitem ht.typeIs entry_tuple_getitem ?_ (args_tuple_getitem _ _)))
  show wpAny _ _ (Builtin.Tuple.tupleItemsOf (.ref t) >>= _) _ _ s
  refine wpAny_bind (tupleItemsOf_ ht ?_)
  refine wpAny_bind (wpAny_typeOf hTs ?_)
  rw [if_pos (by decide)]
  refine wpAny_bind (sliceApplied_to hs (Nat.le_of_lt hb) ?_)
  have hno : ¬ (((0 : Int) == 0 && (1 : Int) == 1 && b == items.size) = true) := by
    have : (b == items.size) = false := by rw [beq_eq_false_iff_ne]; omega
    rw [this]; simp
  show wpAny _ _ (if ((0 : Int) == 0 && (1 : Int) == 1 && b == items.size) = true then _ else _) _ _ s
  rw [if_neg hno, pick_to items b (Nat.le_of_lt hb)]
  first
    | exact wpAny_bind (m := Builtin.Tuple.tupleExact _) (wpAny_newObj_type (wpAny_pure ⟨_, rfl, wpAny_pure h⟩) hdrop)
    | exact wpAny_bind (m := Builtin.Tuple.tupleExact _) (wpAny_newObj_type (wpAny_bind (wpAny_pure (wpAny_pure ⟨_, rfl, wpAny_pure h⟩))) hdrop)
    | exact wpAny_bind (wpAny_bind (m := Builtin.Tuple.tupleExact _) (wpAny_newObj_type (wpAny_pure (wpAny_pure ⟨_, rfl, wpAny_pure h⟩)) hdrop))
    | exact wpAny_bind (wpAny_bind (m := Builtin.Tuple.tupleExact _) (wpAny_newObj_type (wpAny_pure ⟨_, rfl, wpAny_pure h⟩) hdrop))
end
section
variable {prog : Program} {w : World} {A : Around} {E : Value → Shared → Prop} {s : Shared} {h₀ : Heap} {L : Addr} {m : Str → Option Value} {news : List (Addr × Obj)}
theorem slice_tup {value slice : Expr} {t : Addr} {vs zs : List Value} {b : Int} {u : Tok} {n : Nat} {Q : Value → Shared → Prop}
    (F : Fr h₀ L s.heap m) (N : News h₀ L s.heap news) (hm : (t, tupObj vs n) ∈ news) (h0 : 0 ≤ b) (hb : b < (vs.length : Int)) (hz : vs.length ≤ 1000) (e : vs.take b.toNat = zs)
    (h : ∀ D h', Fr h₀ L h' m → News h₀ L h' ((D, tupObj zs 0) :: news) → (∀ p ∈ news, p.1 < D) → Q (.ref D) { s with heap := h' })
    (hs : subscripted slice false (.ref t) (.ref s.heap.objs.size) = operate [.ref s.heap.objs.size, .ref t] (getItem (.ref t) (.ref s.heap.objs.size)) := by with_unfolding_all rfl)
    (hg : ∀ r, letTemporaryGo value (.ref t) r = pure () := by intro _; with_unfolding_all rfl) :
    wpAny (model prog w) A (subscriptTail value slice (.ref t) (.ref s.heap.objs.size)) Q E { s with heap := s.heap.push { cls := .type "slice", data := .fields #[.none, .int b u, .none] } } := by
  obtain ⟨b, rfl⟩ := Int.eq_ofNat_of_zero_le h0
  have ht : IsTup s.heap t vs.toArray := ⟨_, (N _ hm).1, rfl, n, rfl⟩
  have ht' : IsTup (s.heap.push { cls := .type "slice", data := .fields #[.none, .int b u, .none] }) t vs.toArray := ht.keeps fun _ _ e => Heap.get?_push_of_some _ e
  refine subscriptTail_ops (s := { s with heap := s.heap.push { cls := .type "slice", data := .fields #[.none, .int b u, .none] } }) ht'.typeIs slot_tuple_getitem.lookup
    (getItem_tuple_to ht' (Heap.IsSliceOf.new ..) (by rw [List.size_toArray]; omega) ?_ (by rw [List.size_toArray, sizeLine_eq]; omega)) hs hg
  have N1 := News.push (F.push { cls := .type "slice", data := .fields #[.none, .int b u, .none] }) (N.grown fun _ _ e => Heap.get?_push_of_some _ e) (tupObj zs 0)
  rw [Heap.size_push] at N1
  have ez : vs.toArray.toList.take b = zs := e
  rw [ez]
  show Q (.ref (s.heap.push _).objs.size) _
  rw [Heap.size_push]
  exact h _ _ ((F.push _).push _) N1 fun p hp => Nat.lt_succ_of_lt (Heap.lt_size (N p hp).1)
theorem add_tup {t b : Addr} {vs ws : List Value} {n k : Nat} {Q : Value → Shared → Prop} (F : Fr h₀ L s.heap m) (N : News h₀ L s.heap news) (hm : (t, tupObj vs n) ∈ news) (hb : (b, tupObj ws k) ∈ news) (hv : vs ≠ []) (hw : ws ≠ []) (hz : vs.length + ws.length ≤ 16384)
    (h : ∀ D h', Fr h₀ L h' m → News h₀ L h' ((D, tupObj (vs ++ ws) 0) :: news) → (∀ p ∈ news, p.1 < D) → Q (.ref D) { s with heap := h' }) : wpAny (model prog w) A (binaryOp .Add (.ref t) (.ref b)) Q E s :=
  kde_addT (its := vs.toArray) (its2 := ws.toArray) F N ⟨_, (N _ hm).1, rfl, n, rfl⟩ ⟨_, (N _ hb).1, rfl, k, rfl⟩ hv hw hz rfl h
open Classical in
theorem notin_tups {l x : Addr} {items : Array Value} {k n : Nat} {ws : List Value} {es : List FD} {Q : Value → Shared → Prop} (N : News h₀ L s.heap news) (hl : (l, listOf items k) ∈ news) (hx : (x, tupObj ws n) ∈ news) (Fx : FAll ws es) (hu : A.in1.units < cLine)
    (he : ∀ y ∈ items, ∃ a vs ds n, y = .ref a ∧ a ≠ x ∧ (a, tupObj vs n) ∈ news ∧ FAll vs ds ∧ kindsAll ds es) (h : ∀ b : Bool, (items.size = 0 → b = true) → Q (.bool b) s) : wpAny (model prog w) A (compareOp .NotIn (.ref x) (.ref l)) Q E s := by
  refine notIn_listAt (fun y => if h : ∃ b, EqAt A.in1 s y (.ref x) b then h.choose else false) (News.isList N hl) (fun y hy => ?_) (h _ fun h0 => ?_)
  · obtain ⟨a, vs, ds, n', rfl, hne, hm, hf, hk⟩ := he y hy
    have hex : ∃ b, EqAt A.in1 s (.ref a) (.ref x) b := ⟨_, EqAt.of_refs hne (rc_tuples N hm hx hf Fx hk hu)⟩
    simp only [hex, dif_pos]
    exact hex.choose_spec
  · have : items = #[] := Array.eq_empty_of_size_eq_zero h0
    subst this
    simp
end
open PySem PySem.W PyProof.Rows PySem.Spec
/-! the law's entries: plain law -/
structure Ent where
  u : Array UInt8
  q : Nat
  k : Nat
  c : Nat
  v : Array UInt8
def Ent.fd (e : Ent) : List FD := [.b e.u, .i (0 - (e.q : Int)), .i (0 - (e.k : Int)), .i (e.c : Int), .b e.v]
def Ent.row (e : Ent) : Row := (⟨e.u, e.q, e.k⟩, e.v)
def Ent.z (e : Ent) : Row × Nat := (e.row, e.c)
structure Ent.Ok (n : Nat) (e : Ent) : Prop where
  u : e.u ∈ usersL
  q : seqOk e.q
  k : e.k ≤ 1
  c : e.c < n
  v : e.v.size ≤ 8
theorem ent_lt {a b : Ent} (ha : a.k ≤ 1) (hb : b.k ≤ 1) (h : ltL a.fd b.fd = true) : Zord a.z b.z := by
  unfold Ent.fd at h
  simp only [ltL, ltFD, FD.b.injEq, FD.i.injEq] at h
  unfold Zord
  rw [cmpI_lt, cmpI_eq]
  show (ltB a.u b.u = true ∨ (a.u = b.u ∧ (b.q : Int) * 256 + b.k < (a.q : Int) * 256 + a.k)) ∨ ((a.u = b.u ∧ (a.q : Int) * 256 + a.k = (b.q : Int) * 256 + b.k) ∧ a.c ≤ b.c)
  by_cases e1 : a.u = b.u
  · rw [if_pos e1] at h
    by_cases e2 : (0 : Int) - a.q = 0 - b.q
    · rw [if_pos e2] at h
      by_cases e3 : (0 : Int) - a.k = 0 - b.k
      · rw [if_pos e3] at h
        by_cases e4 : (a.c : Int) = b.c
        · exact .inr ⟨⟨e1, by omega⟩, by omega⟩
        · rw [if_neg e4] at h
          have := of_decide_eq_true h
          exact .inr ⟨⟨e1, by omega⟩, by omega⟩
      · rw [if_neg e3] at h
        have := of_decide_eq_true h
        exact .inl (.inr ⟨e1, by omega⟩)
    · rw [if_neg e2] at h
      have := of_decide_eq_true h
      exact .inl (.inr ⟨e1, by omega⟩)
  · rw [if_neg e1] at h
    exact .inl (.inl h)
def cut3 (e : Ent) : List FD := [.b e.u, .i (0 - (e.q : Int)), .i (0 - (e.k : Int))]
theorem cut_lt {e : Ent} {t : Array UInt8} {s : Nat} (hk : e.k ≤ 1) : ltL (cut3 e) [.b t, .i (0 - (s : Int)), .i (-1)] = decide (cmpI e.row.1 ⟨t, s, 1⟩ < 0) := by
  unfold cut3
  simp only [ltL, ltFD, FD.b.injEq, FD.i.injEq]
  have e0 : (cmpI e.row.1 ⟨t, s, 1⟩ < 0) ↔ (ltB e.u t = true ∨ (e.u = t ∧ (s : Int) * 256 + (1 : Nat) < (e.q : Int) * 256 + e.k)) := cmpI_lt _ _
  rw [Bool.eq_iff_iff, decide_eq_true_iff, e0]
  by_cases e1 : e.u = t
  · subst e1
    simp only [if_true, ltB_irrefl, Bool.false_eq_true, false_or, true_and]
    by_cases e2 : (0 : Int) - e.q = 0 - s
    · rw [if_pos e2]
      by_cases e3 : (0 : Int) - e.k = -1
      · rw [if_pos e3]
        constructor
        · intro h; cases h
        · intro h; omega
      · rw [if_neg e3, decide_eq_true_iff]
        omega
    · rw [if_neg e2, decide_eq_true_iff]
      omega
  · rw [if_neg e1]
    constructor
    · intro h; exact .inl h
    · rintro (h | ⟨h, _⟩)
      · exact h
      · exact absurd h e1
theorem filter_tw {α : Type} {p : α → Bool} : ∀ {l : List α}, (l.Pairwise fun a b => p b = true → p a = true) → l.countP p = (l.takeWhile p).length
  | [], _ => rfl
  | a :: l, h => by
    rw [List.pairwise_cons] at h
    cases e : p a with
    | true => rw [List.countP_cons_of_pos e, List.takeWhile_cons_of_pos e, List.length_cons, filter_tw h.2]
    | false =>
      rw [List.countP_cons_of_neg (by simp [e]), List.takeWhile_cons_of_neg (by simp [e])]
      show _ = 0
      rw [List.countP_eq_zero]
      intro b hb hp
      have := h.1 b hb hp
      rw [e] at this
      cases this
theorem count_lt {R : List Row} (hs : SortedR R) (e : IK) : R.countP (fun x => decide (cmpI x.1 e < 0)) = ltLen R e := by
  refine filter_tw (hs.imp fun {a b} h g => ?_)
  exact decide_eq_true (cmpI_trans_lt h (of_decide_eq_true g))
theorem seekAt_place (R : List Row) (e : IK) : seekAt R e = placeP R.length (ltLen R e : Int) := by
  show (if ltLen R e < R.length then some (ltLen R e) else none) = _
  unfold placeP
  by_cases h : ltLen R e < R.length
  · rw [if_pos h, if_pos ⟨by omega, by omega⟩]; rfl
  · rw [if_neg h, if_neg (by omega)]
theorem firstP_place (n : Nat) : firstP n = placeP n 0 := by
  unfold firstP placeP
  by_cases h : 0 < n
  · rw [if_pos h, if_pos ⟨by omega, by omega⟩]; rfl
  · rw [if_neg h, if_neg (by omega)]
theorem lastP_place (n : Nat) : befOf n = placeP n ((n : Int) - 1) := by
  unfold befOf placeP
  by_cases h : n = 0
  · rw [if_pos h, if_neg (by omega)]
  · rw [if_neg h, if_pos ⟨by omega, by omega⟩]; congr 1; omega
theorem nextP_place {n p : Nat} (h : p < n) : nextP n p = placeP n ((p : Int) + 1) := by
  unfold nextP placeP
  by_cases h : p + 1 < n
  · rw [if_pos h, if_pos ⟨by omega, by omega⟩]; rfl
  · rw [if_neg h, if_neg (by omega)]
theorem backP_place {n p : Nat} (h : p < n) : befOf p = placeP n ((p : Int) - 1) := by
  unfold befOf placeP
  by_cases h : p = 0
  · rw [if_pos h, if_neg (by omega)]
  · rw [if_neg h, if_pos ⟨by omega, by omega⟩]; congr 1; omega
theorem noneP_place (n : Nat) : (none : Option Nat) = placeP n (-1) := by
  unfold placeP
  rw [if_neg (by omega)]
/-! what a user is told, as the law says it -/
def seenOne (ents : List Ent) (upto : Int) (lo hi : Option (Array UInt8)) (u : Array UInt8) : List RowB :=
  if underLo lo u then [] else if pastHi hi u then [] else
  match (ents.filter fun e => e.u == u && decide ((e.q : Int) ≤ upto)).head? with
  | some e => if e.k = 1 then [(u, e.v)] else []
  | none => []
theorem seenOne_key {ents : List Ent} {upto : Int} {lo hi : Option (Array UInt8)} {u : Array UInt8} {r : RowB} (h : r ∈ seenOne ents upto lo hi u) : r.1 = u := by
  unfold seenOne at h
  split at h
  · cases h
  · split at h
    · cases h
    · split at h
      · split at h
        · rw [List.mem_singleton.mp h]
        · cases h
      · cases h
theorem seenOne_pw {ents : List Ent} {upto : Int} {lo hi : Option (Array UInt8)} {u : Array UInt8} : (seenOne ents upto lo hi u).Pairwise fun a b => ltB a.1 b.1 = true := by
  unfold seenOne
  split
  · exact .nil
  · split
    · exact .nil
    · split
      · split
        · exact List.pairwise_singleton _ _
        · exact .nil
      · exact .nil
theorem seen_pw {ents : List Ent} {upto : Int} {lo hi : Option (Array UInt8)} : ∀ {us : List (Array UInt8)}, (us.Pairwise fun a b => ltB a b = true) → (us.flatMap (seenOne ents upto lo hi)).Pairwise fun a b => ltB a.1 b.1 = true
  | [], _ => .nil
  | u :: us, h => by
    rw [List.pairwise_cons] at h
    rw [List.flatMap_cons, List.pairwise_append]
    refine ⟨seenOne_pw, seen_pw h.2, fun a ha b hb => ?_⟩
    obtain ⟨u', hu', hb⟩ := List.mem_flatMap.mp hb
    rw [seenOne_key ha, seenOne_key hb]
    exact h.1 u' hu'
theorem usersL_pw : usersL.Pairwise fun a b => ltB a b = true := by decide
theorem same_lists {α : Type} {lt : α → α → Prop} (irr : ∀ a, ¬ lt a a) (asy : ∀ a b, lt a b → ¬ lt b a) : ∀ {l1 l2 : List α}, l1.Pairwise lt → l2.Pairwise lt → (∀ x, x ∈ l1 ↔ x ∈ l2) → l1 = l2
  | [], [], _, _, _ => rfl
  | [], b :: t, _, _, h => by have := (h b).mpr (.head _); cases this
  | a :: t, [], _, _, h => by have := (h a).mp (.head _); cases this
  | a :: t1, b :: t2, h1, h2, h => by
    rw [List.pairwise_cons] at h1 h2
    have e : a = b := by
      rcases List.mem_cons.mp ((h a).mp (.head _)) with e | ha
      · exact e
      · rcases List.mem_cons.mp ((h b).mpr (.head _)) with e | hb
        · exact e.symm
        · exact absurd (h1.1 b hb) (asy _ _ (h2.1 a ha))
    subst e
    rw [same_lists irr asy h1.2 h2.2 fun x => ⟨fun hx => ?_, fun hx => ?_⟩]
    · rcases List.mem_cons.mp ((h x).mp (.tail _ hx)) with rfl | hx'
      · exact absurd (h1.1 x hx) (irr x)
      · exact hx'
    · rcases List.mem_cons.mp ((h x).mpr (.tail _ hx)) with rfl | hx'
      · exact absurd (h2.1 x hx) (irr x)
      · exact hx'
theorem row_seq {e : Ent} (hk : e.k ≤ 1) : e.row.1.seq = (e.q : Int) := by
  show ((e.q : Int) * 256 + (e.k : Int)) / 256 = e.q
  omega
theorem row_kind {e : Ent} (hk : e.k ≤ 1) : e.row.1.kind = (e.k : Int) := by
  show ((e.q : Int) * 256 + (e.k : Int)) % 256 = e.k
  omega
theorem filter_first {α : Type} {p : α → Bool} : ∀ {l : List α} {x : α}, (l.filter p).head? = some x ↔ ∃ i, l[i]? = some x ∧ p x = true ∧ ∀ (j : Nat) y, j < i → l[j]? = some y → p y = false
  | [], x => by
    constructor
    · intro h; cases h
    · rintro ⟨i, h, _⟩; simp at h
  | a :: l, x => by
    cases e : p a with
    | true =>
      rw [List.filter_cons_of_pos e]
      constructor
      · intro h
        cases h
        exact ⟨0, rfl, e, fun j y hj => absurd hj (Nat.not_lt_zero _)⟩
      · rintro ⟨i, h1, h2, h3⟩
        cases i with
        | zero => cases h1; rfl
        | succ i => have := h3 0 a (Nat.succ_pos _) rfl; rw [e] at this; cases this
    | false =>
      rw [List.filter_cons_of_neg (by simp [e]), filter_first]
      constructor
      · rintro ⟨i, h1, h2, h3⟩
        refine ⟨i + 1, h1, h2, fun j y hj hy => ?_⟩
        cases j with
        | zero => cases hy; exact e
        | succ j => exact h3 j y (by omega) hy
      · rintro ⟨i, h1, h2, h3⟩
        cases i with
        | zero => cases h1; rw [e] at h2; cases h2
        | succ i => exact ⟨i, h1, h2, fun j y hj hy => h3 (j + 1) y (by omega) hy⟩
theorem told_pw {R : List Row} {upto : Int} {lo hi : Option (Array UInt8)} (hs : SortedR R) : (toldRows R upto lo hi).Pairwise fun a b => ltB a.1 b.1 = true := by
  unfold toldRows
  rw [List.pairwise_map]
  refine List.Pairwise.imp_of_mem (R := fun (a b : Nat) => a < b) (fun {i j} hi hj hlt => ?_) toldL_sorted
  obtain ⟨x, hx⟩ := mem_toldL.mp hi
  obtain ⟨y, hy⟩ := mem_toldL.mp hj
  rw [savedK_some hx.here, savedK_some hy.here]
  have h1 := user_at hs hx.here hy.here (Nat.le_of_lt hlt)
  cases e : ltB x.1.u y.1.u with
  | true => rfl
  | false => exact absurd hx.vis (hy.newest i x hlt hx.here (ltB_conn e h1))
theorem seen_told {ents : List Ent} {upto : Int} {lo hi : Option (Array UInt8)} (hs : SortedR (ents.map Ent.row)) (hu : ∀ e ∈ ents, e.u ∈ usersL) (hk : ∀ e ∈ ents, e.k ≤ 1) :
    usersL.flatMap (seenOne ents upto lo hi) = toldRows (ents.map Ent.row) upto lo hi := by
  refine same_lists (lt := fun a b : RowB => ltB a.1 b.1 = true) (fun a h => by rw [ltB_irrefl] at h; cases h) (fun a b h g => by rw [ltB_asymm h] at g; cases g) (seen_pw usersL_pw) (told_pw hs) fun r => ?_
  unfold toldRows
  rw [List.mem_flatMap, List.mem_map]
  constructor
  · rintro ⟨u, hu1, hr⟩
    unfold seenOne at hr
    split at hr
    · cases hr
    · rename_i hlo
      split at hr
      · cases hr
      · rename_i hhi
        split at hr
        · rename_i e he
          split at hr
          · rename_i hk1
            obtain ⟨i, h1, h2, h3⟩ := filter_first.mp he
            have hm := List.mem_of_getElem? h1
            have hke := hk e hm
            have h2' : e.u = u ∧ (e.q : Int) ≤ upto := by simpa using h2
            have hx : (ents.map Ent.row)[i]? = some e.row := by rw [List.getElem?_map, h1]; rfl
            rw [List.mem_singleton.mp hr]
            refine ⟨i, mem_toldL.mpr ⟨e.row, hx, by rw [row_seq hke]; exact h2'.2, by rw [row_kind hke]; omega, ?_, ?_, fun i' y hi' hy hyu => ?_⟩, ?_⟩
            · show underLo lo e.u = false
              rw [h2'.1]; simpa using hlo
            · show pastHi hi e.u = false
              rw [h2'.1]; simpa using hhi
            · rw [List.getElem?_map] at hy
              obtain ⟨f, hf, rfl⟩ := Option.map_eq_some_iff.mp hy
              have h4 := h3 i' f hi' hf
              rw [row_seq (hk f (List.mem_of_getElem? hf))]
              intro h5
              have : (f.u == u && decide ((f.q : Int) ≤ upto)) = true := by
                have : f.u = u := by rw [← h2'.1]; exact hyu
                simp [this, h5]
              rw [this] at h4; cases h4
            · rw [savedK_some hx, savedV_some hx]
              show (e.u, e.v) = _
              rw [h2'.1]
          · cases hr
        · cases hr
  · rintro ⟨i, hi1, rfl⟩
    obtain ⟨x, hx⟩ := mem_toldL.mp hi1
    have hx1 := hx.here
    rw [List.getElem?_map] at hx1
    obtain ⟨e, he, rfl⟩ := Option.map_eq_some_iff.mp hx1
    have hm := List.mem_of_getElem? he
    have hke := hk e hm
    refine ⟨e.u, hu e hm, ?_⟩
    rw [savedK_some hx.here, savedV_some hx.here]
    unfold seenOne
    rw [show underLo lo e.u = false from hx.low, show pastHi hi e.u = false from hx.high]
    have : (ents.filter fun f => f.u == e.u && decide ((f.q : Int) ≤ upto)).head? = some e := by
      refine filter_first.mpr ⟨i, he, ?_, fun j f hj hf => ?_⟩
      · have := hx.vis
        rw [row_seq hke] at this
        simp [this]
      · have h4 := hx.newest j f.row hj (by rw [List.getElem?_map, hf]; rfl)
        cases h5 : (f.u == e.u && decide ((f.q : Int) ≤ upto)) with
        | false => rfl
        | true =>
          have h5' : f.u = e.u ∧ (f.q : Int) ≤ upto := by simpa using h5
          exact absurd (by rw [row_seq (hk f (List.mem_of_getElem? hf))]; exact h5'.2) (h4 h5'.1)
    rw [this]
    have hp := hx.put
    rw [row_kind hke] at hp
    have : e.k = 1 := by omega
    simp only [this, if_true, Bool.false_eq_true, if_false]
    exact List.mem_singleton.mpr rfl
theorem ents_pw {ents : List Ent} (h : ents.Pairwise fun a b => ltL a.fd b.fd = true) (hk : ∀ e ∈ ents, e.k ≤ 1) : (ents.map Ent.z).Pairwise Zord := by
  rw [List.pairwise_map]
  exact List.Pairwise.imp_of_mem (fun {a b} ha hb g => ent_lt (hk a ha) (hk b hb) g) h
theorem ents_sorted {ents : List Ent} (h : ents.Pairwise fun a b => ltL a.fd b.fd = true) (hk : ∀ e ∈ ents, e.k ≤ 1) : SortedR (ents.map Ent.row) := by
  unfold SortedR
  rw [List.pairwise_map]
  exact List.Pairwise.imp_of_mem (fun {a b} ha hb g => Zord.le (ent_lt (hk a ha) (hk b hb) g)) h
theorem placeT_place (T : List Nat) (c : Nat) : placeT T c = placeP T.length (c : Int) := by
  unfold placeT placeP
  by_cases h : c < T.length
  · rw [if_pos h, if_pos ⟨by omega, by omega⟩]; rfl
  · rw [if_neg h, if_neg (by omega)]
theorem told_count (R : List Row) (upto : Int) (lo hi : Option (Array UInt8)) (t : Array UInt8) : (toldL R upto lo hi).countP (fun k => ltB (userAt R k) t) = (toldRows R upto lo hi).countP fun r => ltB r.1 t := by
  unfold toldRows
  rw [List.countP_map]
  rfl
theorem ents_count {ents : List Ent} (hs : SortedR (ents.map Ent.row)) (hk : ∀ e ∈ ents, e.k ≤ 1) (t : Array UInt8) (s : Nat) : ents.countP (fun e => ltL (cut3 e) [.b t, .i (0 - (s : Int)), .i (-1)]) = ltLen (ents.map Ent.row) ⟨t, s, 1⟩ := by
  rw [← count_lt hs, List.countP_map]
  refine List.countP_congr fun e he => ?_
  rw [cut_lt (hk e he)]
  rfl
open PySem PySem.W PyProof.Rows PySem.Spec
set_option maxRecDepth 100000
/-! the law's entries on the ledger -/
structure EntsIn (led : Led) (vs : Array Value) (ents : List Ent) : Prop where
  size : vs.size = ents.length
  at' : ∀ (i : Nat) e, ents[i]? = some e → ∃ a xs k, vs[i]? = some (.ref a) ∧ (a, tupObj xs k) ∈ led ∧ FAll xs e.fd
theorem EntsIn.mono {led led' : Led} {vs : Array Value} {ents : List Ent} (h : EntsIn led vs ents) (hs : ∀ p ∈ led, p ∈ led') : EntsIn led' vs ents :=
  ⟨h.size, fun i e he => by obtain ⟨a, xs, k, h1, h2, h3⟩ := h.at' i e he; exact ⟨a, xs, k, h1, hs _ h2, h3⟩⟩
theorem EntsIn.nil {led : Led} : EntsIn led #[] [] := ⟨rfl, fun i e he => by simp at he⟩
theorem EntsIn.push {led : Led} {vs : Array Value} {ents : List Ent} {e : Ent} {a : Addr} {xs : List Value} {k : Nat} (h : EntsIn led vs ents) (hm : (a, tupObj xs k) ∈ led) (hf : FAll xs e.fd) : EntsIn led (vs.push (.ref a)) (ents ++ [e]) := by
  have hz := h.size
  refine ⟨by simp [hz], fun i e' he => ?_⟩
  by_cases hi : i < ents.length
  · rw [List.getElem?_append_left hi] at he
    obtain ⟨a', xs', k', h1, h2, h3⟩ := h.at' i e' he
    refine ⟨a', xs', k', ?_, h2, h3⟩
    rw [Array.getElem?_push_lt (by omega), ← h1, Array.getElem?_eq_getElem (by omega)]
  · rw [List.getElem?_append_right (by omega)] at he
    have hi2 : i = ents.length := by
      by_cases h0 : i - ents.length = 0
      · omega
      · rw [List.getElem?_eq_none (by simp; omega)] at he; cases he
    subst hi2
    simp at he
    subst he
    refine ⟨a, xs, k, ?_, hm, hf⟩
    rw [← hz]; simp
theorem FAll_ent {xs : List Value} {e : Ent} (h : FAll xs e.fd) : ∃ t1 t2 t3 t4 t5, xs = [.bytes e.u t1, .int (0 - (e.q : Int)) t2, .int (0 - (e.k : Int)) t3, .int (e.c : Int) t4, .bytes e.v t5] := by
  unfold Ent.fd at h
  match xs, h with
  | [_, _, _, _, _], ⟨⟨t1, rfl⟩, ⟨t2, rfl⟩, ⟨t3, rfl⟩, ⟨t4, rfl⟩, ⟨t5, rfl⟩, _⟩ => exact ⟨t1, t2, t3, t4, t5, rfl⟩
theorem FAll_of {e : Ent} {t1 t2 t3 t4 t5 : Tok} : FAll [.bytes e.u t1, .int (0 - (e.q : Int)) t2, .int (0 - (e.k : Int)) t3, .int (e.c : Int) t4, .bytes e.v t5] e.fd :=
  ⟨⟨_, rfl⟩, ⟨_, rfl⟩, ⟨_, rfl⟩, ⟨_, rfl⟩, ⟨_, rfl⟩, trivial⟩
theorem kinds_ent (a b : Ent) : kindsAll a.fd b.fd := ⟨trivial, trivial, trivial, trivial, trivial, trivial⟩
section
variable {prog : Program} {w : World} {A : Around} {E : Value → Shared → Prop} {s : Shared} {h₀ : Heap} {L l : Addr} {m : Str → Option Value} {news : Led} {Q : Value → Shared → Prop}
theorem sorted_ents {vs : Array Value} {n : Nat} {ents : List Ent} (F : Fr h₀ L s.heap m) (N : News h₀ L s.heap news) (hl : (l, listOf vs n) ∈ news) (he : EntsIn news vs ents) (h1 : 1 ≤ ents.length) (h5 : ents.length ≤ 5) (hd : ents.Pairwise fun a b => a.v ≠ b.v)
    (k : ∀ D c h' vs' ents', ents'.length = ents.length → (∀ e ∈ ents', e ∈ ents) → ents'.Pairwise (fun a b => ltL a.fd b.fd = true) → EntsIn news vs' ents' → (∀ q ∈ news, q.1 < D) → Fr h₀ L h' m → News h₀ L h' ((D, listOf vs' c) :: news) → Q (.ref D) { s with heap := h' }) :
    wpAny (model prog w) A (call (.builtin "sorted") [.ref l]) Q E s := by
  have hz := he.size
  by_cases h2 : ents.length = 1
  · obtain ⟨e, rfl⟩ : ∃ e, ents = [e] := by
      match ents, h2 with
      | [e], _ => exact ⟨e, rfl⟩
    obtain ⟨a, xs, k', g1, g2, g3⟩ := he.at' 0 e rfl
    have hv : vs = [Value.ref a].toArray := by
      apply Array.ext
      · simpa using hz
      · intro i h1 h2
        have : i = 0 := by simpa using h2
        subst this
        rw [Array.getElem?_eq_getElem h1] at g1
        simpa using g1
    subst hv
    refine sorted_one F N hl fun D c h' hlt F' N' => k D c h' _ [e] rfl (fun _ h => h) (List.pairwise_singleton _ _) he hlt F' N'
  · have hzl : vs.toList.length = ents.length := by simpa using hz
    refine sorted_tuples (vs := vs.toList) F N (by simpa using hl) (by omega) (by omega) (fun i => (ents.getD i ⟨#[], 1, 0, 0, #[]⟩).fd) (fun i v hv => ?_) (fun i j _ _ => kinds_ent _ _) (fun i _ => ⟨_, _, rfl⟩) (fun i j hi hj hij e => ?_) fun D c h' p p1 p2 p3 p4 F' N' => ?_
    · have hi : i < vs.toList.length := (List.getElem?_eq_some_iff.mp hv).1
      have hi2 : i < ents.length := by omega
      obtain ⟨a, xs, k', g1, g2, g3⟩ := he.at' i _ (List.getElem?_eq_getElem hi2)
      have : v = .ref a := by
        rw [Array.getElem?_toList, g1] at hv
        exact (Option.some.inj hv).symm
      refine ⟨a, xs, k', this, g2, ?_⟩
      show FAll xs (ents.getD i _).fd
      rw [List.getD_eq_getElem?_getD, List.getElem?_eq_getElem hi2]
      exact g3
    · have hi2 : i < ents.length := by omega
      have hj2 : j < ents.length := by omega
      simp only [List.getD_eq_getElem?_getD, List.getElem?_eq_getElem hi2, List.getElem?_eq_getElem hj2, Option.getD_some] at e
      have ev : ents[i].v = ents[j].v := by
        unfold Ent.fd at e
        injection e with _ e
        injection e with _ e
        injection e with _ e
        injection e with _ e
        injection e with e _
        injection e
      rw [List.pairwise_iff_getElem] at hd
      rcases Nat.lt_or_gt_of_ne hij with h | h
      · exact hd i j hi2 hj2 h ev
      · exact hd j i hj2 hi2 h ev.symm
    · refine k D c h' (p.map fun i => vs.toList.getD i .none).toArray (p.map fun i => ents.getD i ⟨#[], 1, 0, 0, #[]⟩) (by rw [List.length_map, p1]; exact hzl) (fun e hm => ?_) (List.pairwise_map.mpr p3) ⟨by simp, fun i e hi => ?_⟩ p4 F' N'
      · obtain ⟨i, hi, rfl⟩ := List.mem_map.mp hm
        have hi2 : i < ents.length := by have := p2 i hi; omega
        simp only [List.getD_eq_getElem?_getD, List.getElem?_eq_getElem hi2, Option.getD_some]
        exact List.getElem_mem hi2
      · rw [List.getElem?_map] at hi
        obtain ⟨j, hj, rfl⟩ := Option.map_eq_some_iff.mp hi
        have hj2 : j < ents.length := by have := p2 j (List.mem_of_getElem? hj); omega
        obtain ⟨a, xs, k', g1, g2, g3⟩ := he.at' j _ (List.getElem?_eq_getElem hj2)
        refine ⟨a, xs, k', ?_, g2, ?_⟩
        · rw [List.getElem?_toArray, List.getElem?_map, hj]
          show some (vs.toList.getD j .none) = _
          rw [List.getD_eq_getElem?_getD, Array.getElem?_toList, g1]
          rfl
        · simp only [List.getD_eq_getElem?_getD, List.getElem?_eq_getElem hj2, Option.getD_some]
          exact g3
end
end Mine
namespace Mine
open PySem PySem.W PyProof.Rows PySem.Spec
set_option maxRecDepth 100000
set_option hygiene false in
local macro_rules | `(tactic| walk_at "compareOp Lt bytes bytes") => `(tactic| with_reducible refine Mine.lt_bytes ?_)
set_option hygiene false in
local macro_rules | `(tactic| walk_at "compareOp Gt bytes bytes") => `(tactic| with_reducible refine Mine.gt_bytes ?_)
set_option hygiene false in
local macro_rules | `(tactic| walk_at "compareOp GtE bytes bytes") => `(tactic| with_reducible refine Mine.ge_bytes ?_)
set_option hygiene false in
local macro_rules | `(tactic| walk_at "call type:bytes") => `(tactic| ((with_reducible show wpAny _ _ (call (Value.type "bytes") [Value.bytes _ _]) _ _ _); refine Mine.call_bytes_bytes ?_))
set_option hygiene false in
local macro_rules | `(tactic| walk_at "binaryOp LShift int int") => `(tactic| ((first | (with_reducible refine Mine.shl8 ?h0 ?h1 ?_) | (with_reducible refine Mine.shl16 ?h0 ?h1 ?_) | (with_reducible refine Mine.shl24 ?h0 ?h1 ?_) | (with_reducible refine Mine.shl32 ?h0 ?h1 ?_)); (case h0 => omega); (case h1 => omega)))
set_option hygiene false in
local macro_rules | `(tactic| walk_at "binaryOp BitOr int int") => `(tactic| ((first | (with_reducible refine Mine.or8 ?h0 ?h1 ?h2 ?_) | (with_reducible refine Mine.or16 ?h0 ?h1 ?h2 ?_) | (with_reducible refine Mine.or24 ?h0 ?h1 ?h2 ?_) | (with_reducible refine Mine.or32 ?h0 ?h1 ?h2 ?_)); (case h0 => omega); (case h1 => omega); (case h2 => omega)))
set_option hygiene false in
local macro_rules | `(tactic| walk_at "binaryOp LShift int int") => `(tactic| ((with_reducible refine Mine.shl8b ?h0 ?h1 ?_); (case h0 => omega); (case h1 => omega)))
set_option hygiene false in
local macro_rules | `(tactic| walk_at "binaryOp RShift int int") => `(tactic| (first | (with_reducible refine Mine.shr8 ?_) | (with_reducible refine Mine.shr16 ?_) | (with_reducible refine Mine.shr24 ?_) | (with_reducible refine Mine.shr32 ?_)))
set_option hygiene false in
local macro_rules | `(tactic| walk_at "binaryOp BitAnd int int") => `(tactic| ((first | (with_reducible refine Mine.and255 ?h0 ?_) | (with_reducible refine Mine.andM32 ?h0 ?_)); (case h0 => omega)))
set_option hygiene false in
local macro_rules | `(tactic| walk_at "binaryOp BitOr int int") => `(tactic| ((with_reducible refine Mine.or8r ?h0 ?h1 ?h2 ?_); (case h0 => omega); (case h1 => omega); (case h2 => omega)))
set_option hygiene false in
local macro_rules | `(tactic| walk_at "call type:bytes") => `(tactic| ((with_reducible show wpAny _ _ (call (Value.type "bytes") [Value.ref _]) _ _ _); k_dflt (refine' KBa.make_K ?kbaF ?kbaN ?kbah ?kbal ?kbai ?kbar ?kban ?_; (case kbaF => k_asm); (case kbaN => k_asm); (case kbah => rfl); (case kbal => kba_isList); (case kbai => kba_listInts); (case kbar => assumption); (case kban => kba_size)); intro _ _ _ F' N' kbaIn))
set_option hygiene false in
local macro_rules | `(tactic| walk_at "binaryOp Add bytes bytes") => `(tactic| ((with_reducible refine Mine.add_bb ?hz ?_); (case hz => (first | omega | (simp only [Array.size_append, PySem.byteArr_size, Mine.l32, List.length_cons, List.length_nil]; omega))); intro _ _))
set_option hygiene false in
local macro_rules | `(tactic| walk_at "call builtin:len") => `(tactic| ((with_reducible show wpAny _ _ (call (Value.builtin "len") [Value.ref _]) _ _ _); k_dflt (refine' KM.len_K ?N ?m ?e ?b ?_; (case N => k_asm); (case m => k_mem); (case e => assumption); (case b => omega); k_whole)))
set_option hygiene false in
local macro_rules | `(tactic| walk_at "compareOp Eq ref ref") => `(tactic| ((with_reducible show wpAny _ _ (compareOp _ (Value.ref _) (Value.ref _)) _ _ _); k_dflt (refine' Mine.eq_tuples ?N ?ma ?mb ?Fa ?Fb ?K ?hu ?_; (case N => k_asm); (case ma => walk_at "mine tup"); (case mb => walk_at "mine tup"); (case Fa => walk_at "mine fall"); (case Fb => walk_at "mine fall"); (case K => walk_at "mine fall"); (case hu => ktr_units); k_whole)))
set_option hygiene false in
local macro_rules | `(tactic| walk_at "mine tup2") => `(tactic| (repeat (first | assumption | refine List.Mem.tail _ ?_)))
set_option hygiene false in
local macro_rules | `(tactic| walk_at "mine tup") => `(tactic| (first | assumption | k_mem | (repeat (first | exact List.Mem.head _ | refine List.Mem.tail _ ?_))))
set_option hygiene false in
local macro_rules | `(tactic| walk_at "mine fall") => `(tactic| (repeat (first | exact Mine.fall_nil | exact Mine.kinds_nil | refine Mine.fall_b ?_ | refine Mine.fall_i ?_ | refine Mine.kinds_b ?_ | refine Mine.kinds_i ?_)))
set_option hygiene false in
local macro_rules | `(tactic| walk_at "call builtin:list.append") => `(tactic| ((with_reducible show wpAny _ _ (call (Value.builtin "list.append") [Value.ref _, _]) _ _ _); k_dflt (refine' Mine.app_list ?F ?N ?U ?Z ?_; (case F => k_asm); (case N => k_asm); (case U => k_upd); (case Z => omega); k_whole; intro h' F' N'; (try k_sweep))))
set_option hygiene false in
local macro_rules | `(tactic| k_room) => `(tactic| ktr_room)
set_option hygiene false in
local macro_rules | `(tactic| k_units) => `(tactic| ktr_units)
set_option hygiene false in
local macro_rules | `(tactic| k_all) => `(tactic| (first | assumption | exact Mine.all_nil | (refine' Mine.all_cons ?xx ?yy; (case xx => k_ne); (case yy => k_all))))
set_option hygiene false in
local macro_rules | `(tactic| k_mem) => `(tactic| assumption)
set_option hygiene false in
local macro_rules | `(tactic| walk_at "mine begin") => `(tactic| ((rename Frag.In _ _ => X1); revert X1; k_fill; intro X1; refine wpAny_call ?_; k_dflt ktr_enter))
set_option hygiene false in
local macro_rules | `(tactic| walk_at "mine beginT") => `(tactic| (revert X XB; k_fill; intro X1 XB; refine wpAny_call ?_; k_dflt (refine' Mine.code_defSX ?k1 ?k2 ?k3 ?k4 ?k5 ?kA ?k6 ?k7 ?k8 ?k9 ?kB ?_ ?cK ?c2 ?c3 ?c4 ?c5; (case kA => exact rfl); (case k2 => k_asm); (case k1 => k_asm); (case k3 => exact X1); (case k4 => k_asm); (case k5 => k_asm); (case k6 => k_is); (case k7 => k_is); (case k8 => ktr_room); (case k9 => exact BindsTo.of_eq rfl); (case kB => exact locs rfl); (case cK => assumption); (case c2 => exact rfl); (case c3 => exact rfl); (case c4 => exact rfl); (case c5 => decide); k_whole; intro g' L' h' FG' F' N' B' X' T' D'; (try dsimp only); (try k_fold))))
set_option hygiene false in
local macro_rules | `(tactic| walk_at "mine make") => `(tactic| ((rename Frag.In _ _ => X1); revert X1; k_fill; intro X1; k_dflt (refine' call_cls ?k1 ?k2 ?k3 ?k4 ?k5 ?k6 ?_; (case k1 => k_asm); (case k2 => k_asm); (case k3 => k_asm); (case k4 => k_is); (case k5 => k_is); (case k6 => k_is); k_whole; intro x' d' h' F' N' l1 l2; (try k_lt l1); (try k_lt2 l2); (try k_sweep); ktr_enter)))
set_option hygiene false in
local macro_rules | `(tactic| walk_at "mine std") => `(tactic| ((case B => k_asm); (case F => k_asm); (case X => k_asm); (case N => k_asm); (case T => k_asm); (case hk => first | exact rfl | assumption); (case hd => ktr_room); (case hu => ktr_units)))
set_option hygiene false in
local macro_rules | `(tactic| walk_at "mine news") => `(tactic| (first | k_asm | (refine' news_of ?nn ?ns; (case nn => assumption); (case ns => (intro pp hpp; repeat (first | exact hpp | refine List.mem_cons_of_mem _ ?_))))))
set_option hygiene false in
local macro_rules | `(tactic| walk_at "mine std3") => `(tactic| ((case B => k_asm); (case F => k_asm); (case X => k_asm); (case T => k_asm); (case hk => first | exact rfl | assumption); (case hd => ktr_room); (case hu => ktr_units)))
set_option hygiene false in
local macro_rules | `(tactic| walk_at "mine sub") => `(tactic| (intro pp hpp; repeat (first | exact hpp | refine List.mem_cons_of_mem _ ?_)))
set_option hygiene false in
local macro_rules | `(tactic| walk_at "mine steps") => `(tactic| repeat' (first
  | ((fail_if_success (with_reducible show wpAny _ _ (exec (PySem.Stmt.While _ _ _ _) _) _ _ _)); (fail_if_success (with_reducible show wpAny _ _ (pyIter _) _ _ _)); (fail_if_success (with_reducible show wpAny _ _ (call (Value.ref (Mine.adr _ MN.first)) _) _ _ _)); (fail_if_success (with_reducible show wpAny _ _ (call (Value.ref (Mine.adr _ MN.last)) _) _ _ _)); (fail_if_success (with_reducible show wpAny _ _ (call (Value.ref (Mine.adr _ MN.seek)) _) _ _ _)); (fail_if_success (with_reducible show wpAny _ _ (call (Value.ref (Mine.adr _ MN.step)) _) _ _ _)); (fail_if_success (with_reducible show wpAny _ _ (call (Value.ref (Mine.adr _ MN.back)) _) _ _ _));
     (fail_if_success (with_reducible show wpAny _ _ (call (Value.ref 461) _) _ _ _)); (fail_if_success (with_reducible show wpAny _ _ (call (Value.ref 468) _) _ _ _)); (fail_if_success (with_reducible show wpAny _ _ (call (Value.ref 475) _) _ _ _));
     (first | (k_unfold; (try dsimp only)) | walk1 | (dsimp only; walk1) | (leave1; walk_say "STEP leave1"; (try dsimp only)) | fail "no step"))))
set_option hygiene false in
local macro_rules | `(tactic| walk_at "mine stepsL") => `(tactic| repeat' (first
  | ((fail_if_success (with_reducible show wpAny _ _ (exec (PySem.Stmt.While _ _ _ _) _) _ _ _)); (fail_if_success (with_reducible show wpAny _ _ (pyIter _) _ _ _)); (fail_if_success (with_reducible show wpAny _ _ (call (Value.ref (Mine.adr _ MN.first)) _) _ _ _)); (fail_if_success (with_reducible show wpAny _ _ (call (Value.ref (Mine.adr _ MN.last)) _) _ _ _)); (fail_if_success (with_reducible show wpAny _ _ (call (Value.ref (Mine.adr _ MN.seek)) _) _ _ _)); (fail_if_success (with_reducible show wpAny _ _ (call (Value.ref (Mine.adr _ MN.step)) _) _ _ _)); (fail_if_success (with_reducible show wpAny _ _ (call (Value.ref (Mine.adr _ MN.back)) _) _ _ _));
     (fail_if_success (with_reducible show wpAny _ _ (call (Value.ref 412) _) _ _ _)); (fail_if_success (with_reducible show wpAny _ _ (call (Value.ref 419) _) _ _ _)); (fail_if_success (with_reducible show wpAny _ _ (call (Value.ref 461) _) _ _ _)); (fail_if_success (with_reducible show wpAny _ _ (call (Value.ref 468) _) _ _ _)); (fail_if_success (with_reducible show wpAny _ _ (call (Value.ref 475) _) _ _ _));
     (first | (k_unfold; (try dsimp only)) | walk1 | (dsimp only; walk1) | (leave1; walk_say "STEP leave1"; (try dsimp only)) | fail "no step"))))
set_option hygiene false in
local macro_rules | `(tactic| walk_at "mine stepsU") => `(tactic| repeat' (first
  | ((fail_if_success (with_reducible show wpAny _ _ (exec (PySem.Stmt.While _ _ _ _) _) _ _ _)); (fail_if_success (with_reducible show wpAny _ _ (pyIter _) _ _ _)); (fail_if_success (with_reducible show wpAny _ _ (call (Value.ref (Mine.adr _ MN.first)) _) _ _ _)); (fail_if_success (with_reducible show wpAny _ _ (call (Value.ref (Mine.adr _ MN.last)) _) _ _ _)); (fail_if_success (with_reducible show wpAny _ _ (call (Value.ref (Mine.adr _ MN.seek)) _) _ _ _)); (fail_if_success (with_reducible show wpAny _ _ (call (Value.ref (Mine.adr _ MN.step)) _) _ _ _)); (fail_if_success (with_reducible show wpAny _ _ (call (Value.ref (Mine.adr _ MN.back)) _) _ _ _));
     (fail_if_success (with_reducible show wpAny _ _ (call (Value.ref 412) _) _ _ _)); (fail_if_success (with_reducible show wpAny _ _ (call (Value.ref 419) _) _ _ _)); (fail_if_success (with_reducible show wpAny _ _ (call (Value.ref 573) _) _ _ _)); (fail_if_success (with_reducible show wpAny _ _ (call (Value.ref 580) _) _ _ _)); (fail_if_success (with_reducible show wpAny _ _ (call (Value.ref 461) _) _ _ _)); (fail_if_success (with_reducible show wpAny _ _ (call (Value.ref 468) _) _ _ _)); (fail_if_success (with_reducible show wpAny _ _ (call (Value.ref 475) _) _ _ _));
     (first | (k_unfold; (try dsimp only)) | walk1 | (dsimp only; walk1) | (leave1; walk_say "STEP leave1"; (try dsimp only)) | fail "no step"))))
set_option hygiene false in
local macro_rules | `(tactic| walk_at "mine stepsE") => `(tactic| repeat' (first
  | ((fail_if_success (with_reducible show wpAny _ _ (exec (PySem.Stmt.While _ _ _ _) _) _ _ _)); (fail_if_success (with_reducible show wpAny _ _ (pyIter _) _ _ _)); (fail_if_success (with_reducible show wpAny _ _ (call (Value.ref (Mine.adr _ MN.first)) _) _ _ _)); (fail_if_success (with_reducible show wpAny _ _ (call (Value.ref (Mine.adr _ MN.last)) _) _ _ _)); (fail_if_success (with_reducible show wpAny _ _ (call (Value.ref (Mine.adr _ MN.seek)) _) _ _ _)); (fail_if_success (with_reducible show wpAny _ _ (call (Value.ref (Mine.adr _ MN.step)) _) _ _ _)); (fail_if_success (with_reducible show wpAny _ _ (call (Value.ref (Mine.adr _ MN.back)) _) _ _ _));
     (fail_if_success (with_reducible show wpAny _ _ (call (Value.ref 412) _) _ _ _)); (fail_if_success (with_reducible show wpAny _ _ (call (Value.ref 419) _) _ _ _)); (fail_if_success (with_reducible show wpAny _ _ (call (Value.ref 573) _) _ _ _)); (fail_if_success (with_reducible show wpAny _ _ (call (Value.ref 580) _) _ _ _)); (fail_if_success (with_reducible show wpAny _ _ (compareOp _ (Value.ref _) (Value.ref _)) _ _ _)); (fail_if_success (with_reducible show wpAny _ _ (call (Value.ref 461) _) _ _ _)); (fail_if_success (with_reducible show wpAny _ _ (call (Value.ref 468) _) _ _ _)); (fail_if_success (with_reducible show wpAny _ _ (call (Value.ref 475) _) _ _ _));
     (first | (k_unfold; (try dsimp only)) | walk1 | (dsimp only; walk1) | (leave1; walk_say "STEP leave1"; (try dsimp only)) | fail "no step"))))
set_option hygiene false in
local macro_rules | `(tactic| walk_at "mine stepsF") => `(tactic| repeat' (first
  | ((fail_if_success (with_reducible show wpAny _ _ (exec (PySem.Stmt.While _ _ _ _) _) _ _ _)); (fail_if_success (with_reducible show wpAny _ _ (pyIter _) _ _ _)); (fail_if_success (with_reducible show wpAny _ _ (call (Value.ref (Mine.adr _ MN.first)) _) _ _ _)); (fail_if_success (with_reducible show wpAny _ _ (call (Value.ref (Mine.adr _ MN.last)) _) _ _ _)); (fail_if_success (with_reducible show wpAny _ _ (call (Value.ref (Mine.adr _ MN.seek)) _) _ _ _)); (fail_if_success (with_reducible show wpAny _ _ (call (Value.ref (Mine.adr _ MN.step)) _) _ _ _)); (fail_if_success (with_reducible show wpAny _ _ (call (Value.ref (Mine.adr _ MN.back)) _) _ _ _));
     (fail_if_success (with_reducible show wpAny _ _ (call (Value.ref 412) _) _ _ _)); (fail_if_success (with_reducible show wpAny _ _ (call (Value.ref 419) _) _ _ _)); (fail_if_success (with_reducible show wpAny _ _ (call (Value.ref 573) _) _ _ _)); (fail_if_success (with_reducible show wpAny _ _ (call (Value.ref 580) _) _ _ _)); (fail_if_success (with_reducible show wpAny _ _ (exec (PySem.Stmt.For _ _ _ _ _) _) _ _ _)); (fail_if_success (with_reducible show wpAny _ _ (call (Value.ref 461) _) _ _ _)); (fail_if_success (with_reducible show wpAny _ _ (call (Value.ref 468) _) _ _ _)); (fail_if_success (with_reducible show wpAny _ _ (call (Value.ref 475) _) _ _ _));
     (first | (k_unfold; (try dsimp only)) | walk1 | (dsimp only; walk1) | (leave1; walk_say "STEP leave1"; (try dsimp only)) | fail "no step"))))
set_option hygiene false in
local macro_rules | `(tactic| walk_at "mine stepsI") => `(tactic| repeat' (first
  | ((fail_if_success (with_reducible show wpAny _ _ (exec (PySem.Stmt.While _ _ _ _) _) _ _ _)); (fail_if_success (with_reducible show wpAny _ _ (pyIter _) _ _ _)); (fail_if_success (with_reducible show wpAny _ _ (call (Value.ref (Mine.adr _ MN.first)) _) _ _ _)); (fail_if_success (with_reducible show wpAny _ _ (call (Value.ref (Mine.adr _ MN.last)) _) _ _ _)); (fail_if_success (with_reducible show wpAny _ _ (call (Value.ref (Mine.adr _ MN.seek)) _) _ _ _)); (fail_if_success (with_reducible show wpAny _ _ (call (Value.ref (Mine.adr _ MN.step)) _) _ _ _)); (fail_if_success (with_reducible show wpAny _ _ (call (Value.ref (Mine.adr _ MN.back)) _) _ _ _));
     (fail_if_success (with_reducible show wpAny _ _ (call (Value.ref 412) _) _ _ _)); (fail_if_success (with_reducible show wpAny _ _ (call (Value.ref 419) _) _ _ _)); (fail_if_success (with_reducible show wpAny _ _ (call (Value.ref 573) _) _ _ _)); (fail_if_success (with_reducible show wpAny _ _ (call (Value.ref 580) _) _ _ _)); (fail_if_success (with_reducible show wpAny _ _ (exec (PySem.Stmt.For _ _ _ _ _) _) _ _ _)); (fail_if_success (with_reducible show wpAny _ _ (isTrue _ _ _) _ _ _)); (fail_if_success (with_reducible show wpAny _ _ (call (Value.ref 461) _) _ _ _)); (fail_if_success (with_reducible show wpAny _ _ (call (Value.ref 468) _) _ _ _)); (fail_if_success (with_reducible show wpAny _ _ (call (Value.ref 475) _) _ _ _));
     (first | (k_unfold; (try dsimp only)) | walk1 | (dsimp only; walk1) | (leave1; walk_say "STEP leave1"; (try dsimp only)) | fail "no step"))))
set_option hygiene false in
local macro_rules | `(tactic| walk_at "subscriptTail") => `(tactic| ((with_reducible show wpAny _ _ (subscriptTail _ _ (Value.ref _) (Value.int _ _)) _ _ _); k_dflt (refine' Mine.item_list ?N ?m ?a ?b ?x ?_; (case N => k_asm); (case m => k_mem); (case a => omega); (case b => omega); (case x => assumption); k_whole)))
set_option hygiene false in
local macro_rules | `(tactic| walk_at "subscriptTail") => `(tactic| ((with_reducible show wpAny _ _ (subscriptTail _ _ (Value.ref _) (Value.int _ _)) _ _ _); k_dflt (refine' Mine.item_tup ?N ?m ?a ?b ?x ?_; (case N => k_asm); (case m => k_mem); (case a => omega); (case b => omega); (case x => first | exact rfl | assumption); k_whole)))
set_option hygiene false in
local macro_rules | `(tactic| walk_at "eval Name") => `(tactic| (k_dflt (refine' nameX_L ?F ?v ?_ ?a ?b; (case b => rfl); (case F => k_asm); (case a => rfl); (case v => first | exact rfl | assumption); k_whole)))
set_option hygiene false in
local macro_rules | `(tactic| walk_at "call ref") => `(tactic| ((with_reducible show wpAny _ _ (call (Value.ref 115) _) _ _ _); k_dflt (refine' Mine.rd32_r ?B ?F ?X ?N ?T ?hk ?hd ?hu ?s1 ?s2 ?s3 ?s4 ?_; walk_at "mine std"; (case s1 => assumption); (case s2 => omega); (case s3 => omega); (case s4 => omega); k_whole; intro t' h' tk' F' N' b1' b2'; (try k_sweep))))
set_option hygiene false in
local macro_rules | `(tactic| walk_at "call ref") => `(tactic| ((with_reducible show wpAny _ _ (call (Value.ref 122) _) _ _ _); k_dflt (refine' Mine.rd64_r ?B ?F ?X ?N ?T ?hk ?hd ?hu ?s1 ?s2 ?s3 ?s4 ?_; walk_at "mine std"; (case s1 => assumption); (case s2 => omega); (case s3 => omega); (case s4 => omega); k_whole; intro t' h' tk' F' N'; (try k_sweep))))
set_option hygiene false in
local macro_rules | `(tactic| walk_at "call ref") => `(tactic| ((with_reducible show wpAny _ _ (call (Value.ref 150) _) _ _ _); k_dflt (refine' Mine.user_of_r ?B ?F ?X ?N ?T ?hk ?hd ?hu ?s1 ?_; walk_at "mine std"; (case s1 => assumption); k_whole; intro t' h' tk' F' N'; (try k_sweep))))
set_option hygiene false in
local macro_rules | `(tactic| walk_at "call ref") => `(tactic| ((with_reducible show wpAny _ _ (call (Value.ref 157) _) _ _ _); k_dflt (refine' Mine.tag_of_r ?B ?F ?X ?N ?T ?hk ?hd ?hu ?s1 ?_; walk_at "mine std"; (case s1 => assumption); k_whole; intro t' h' tk' F' N'; (try k_sweep))))
set_option hygiene false in
local macro_rules | `(tactic| walk_at "call ref") => `(tactic| ((with_reducible show wpAny _ _ (call (Value.ref 171) _) _ _ _); k_dflt (refine' Mine.ocmp_r ?B ?F ?X ?N ?T ?hk ?hd ?hu  ?_; walk_at "mine std"; k_whole; intro t' h' tk' F' N'; (try k_sweep))))
set_option hygiene false in
local macro_rules | `(tactic| walk_at "call ref") => `(tactic| ((with_reducible show wpAny _ _ (call (Value.ref 136) _) _ _ _); k_dflt (refine' Mine.mkik_r ?B ?F ?X ?N ?T ?hk ?hd ?hu ?s1 ?s2 ?s3 ?_; walk_at "mine std"; (case s1 => omega); (case s2 => omega); (case s3 => omega); k_whole; intro t' h' tk' F' N'; (try k_sweep))))
set_option hygiene false in
local macro_rules | `(tactic| walk_at "call ref") => `(tactic| ((with_reducible show wpAny _ _ (call (Value.ref 253) _) _ _ _); k_dflt (refine' Mine.icmp_r ?B ?F ?X ?N ?T ?hk ?hd ?hu ?s1 ?s2 ?s3 ?_; walk_at "mine std"; (case s1 => assumption); (case s2 => assumption); (case s3 => first | assumption | (refine' OrdIn.mono ?oo ?os; (case oo => assumption); (case os => walk_at "mine sub"))); k_whole; intro t' h' tk' F' N'; (try k_sweep))))
set_option hygiene false in
local macro_rules | `(tactic| walk_at "call ref") => `(tactic| ((with_reducible show wpAny _ _ (call (Value.ref 405) _) _ _ _); k_dflt (refine' Mine.look_r ?B ?F ?X ?N ?T ?hk ?hd ?hu ?s1 ?s2 ?s3 ?s4 ?s5 ?s6 ?s7 ?s8 ?s9 ?s10 ?s11 ?_; (case s1 => assumption); walk_at "mine std"; (case s2 => exact hC2); (case s3 => exact hT2); (case s4 => exact n1); (case s5 => exact n2); (case s6 => exact hcv2); (case s7 => omega); (case s8 => omega); (case s9 => exact g1); (case s10 => exact g2); (case s11 => assumption); k_whole; intro v' h' tk' F' N' V'; (try k_sweep))))
set_option hygiene false in
local macro_rules | `(tactic| walk_at "call ref") => `(tactic| ((with_reducible show wpAny _ _ (call (Value.ref 412) _) _ _ _); k_dflt (refine' Mine.least_r ?B ?F ?X ?N ?T ?hk ?hd ?hu ?s1 ?s2 ?s3 ?s4 ?s5 ?s6 ?s7 ?s8 ?_; walk_at "mine std"; (case s1 => exact n1); (case s2 => exact ord2); (case s3 => exact ht2); (case s4 => exact hok2); (case s5 => omega); (case s6 => exact g1); (case s7 => exact g2); (case s8 => assumption); k_whole; intro t' h' tk' F' N'; (try k_sweep))))
set_option hygiene false in
local macro_rules | `(tactic| walk_at "call ref") => `(tactic| ((with_reducible show wpAny _ _ (call (Value.ref 419) _) _ _ _); k_dflt (refine' Mine.great_r ?B ?F ?X ?N ?T ?hk ?hd ?hu ?s1 ?s2 ?s3 ?s4 ?s5 ?s6 ?s7 ?s8 ?_; walk_at "mine std"; (case s1 => exact n1); (case s2 => exact ord2); (case s3 => exact ht2); (case s4 => exact hok2); (case s5 => omega); (case s6 => exact g1); (case s7 => exact g2); (case s8 => assumption); k_whole; intro t' h' tk' F' N'; (try k_sweep))))
set_option hygiene false in
local macro_rules | `(tactic| walk_at "call ref") => `(tactic| ((with_reducible show wpAny _ _ (call (Value.ref 321) _) _ _ _); k_dflt (refine' Mine.lvalid_r ?B ?F ?X ?N ?T ?hk ?hd ?hu ?s1 ?_; walk_at "mine std"; (case s1 => assumption); k_whole; intro h' tk' F' N'; (try k_sweep))))
set_option hygiene false in
local macro_rules | `(tactic| walk_at "mine subT") => `(tactic| (intro pp hpp; have hq := (List.mem_append.mp hpp).elim (hT pp) _root_.id; repeat (first | exact hq | refine List.mem_cons_of_mem _ ?_)))
set_option hygiene false in
local macro_rules | `(tactic| walk_at "getMethod ref") => `(tactic| ((with_reducible show wpAny _ _ (getMethod (Value.ref (KS.c _)) (PySem.Str.ofString "valid") _) _ _ _); k_dflt (refine' Mine.gm_cur ?S ?C ?F ?X ?N ?s MN.valid ?_; (case S => assumption); (case C => assumption); (case F => k_asm); (case X => k_asm); (case N => k_asm); (case s => walk_at "mine subT"); k_whole)))
set_option hygiene false in
local macro_rules | `(tactic| walk_at "getMethod ref") => `(tactic| ((with_reducible show wpAny _ _ (getMethod (Value.ref (KS.c _)) (PySem.Str.ofString "key") _) _ _ _); k_dflt (refine' Mine.gm_cur ?S ?C ?F ?X ?N ?s MN.key ?_; (case S => assumption); (case C => assumption); (case F => k_asm); (case X => k_asm); (case N => k_asm); (case s => walk_at "mine subT"); k_whole)))
set_option hygiene false in
local macro_rules | `(tactic| walk_at "getMethod ref") => `(tactic| ((with_reducible show wpAny _ _ (getMethod (Value.ref (KS.c _)) (PySem.Str.ofString "value") _) _ _ _); k_dflt (refine' Mine.gm_cur ?S ?C ?F ?X ?N ?s MN.value ?_; (case S => assumption); (case C => assumption); (case F => k_asm); (case X => k_asm); (case N => k_asm); (case s => walk_at "mine subT"); k_whole)))
set_option hygiene false in
local macro_rules | `(tactic| walk_at "getMethod ref") => `(tactic| ((with_reducible show wpAny _ _ (getMethod (Value.ref (KS.c _)) (PySem.Str.ofString "seek_first") _) _ _ _); k_dflt (refine' Mine.gm_cur ?S ?C ?F ?X ?N ?s MN.first ?_; (case S => assumption); (case C => assumption); (case F => k_asm); (case X => k_asm); (case N => k_asm); (case s => walk_at "mine subT"); k_whole)))
set_option hygiene false in
local macro_rules | `(tactic| walk_at "getMethod ref") => `(tactic| ((with_reducible show wpAny _ _ (getMethod (Value.ref (KS.c _)) (PySem.Str.ofString "seek_last") _) _ _ _); k_dflt (refine' Mine.gm_cur ?S ?C ?F ?X ?N ?s MN.last ?_; (case S => assumption); (case C => assumption); (case F => k_asm); (case X => k_asm); (case N => k_asm); (case s => walk_at "mine subT"); k_whole)))
set_option hygiene false in
local macro_rules | `(tactic| walk_at "getMethod ref") => `(tactic| ((with_reducible show wpAny _ _ (getMethod (Value.ref (KS.c _)) (PySem.Str.ofString "seek") _) _ _ _); k_dflt (refine' Mine.gm_cur ?S ?C ?F ?X ?N ?s MN.seek ?_; (case S => assumption); (case C => assumption); (case F => k_asm); (case X => k_asm); (case N => k_asm); (case s => walk_at "mine subT"); k_whole)))
set_option hygiene false in
local macro_rules | `(tactic| walk_at "getMethod ref") => `(tactic| ((with_reducible show wpAny _ _ (getMethod (Value.ref (KS.c _)) (PySem.Str.ofString "step") _) _ _ _); k_dflt (refine' Mine.gm_cur ?S ?C ?F ?X ?N ?s MN.step ?_; (case S => assumption); (case C => assumption); (case F => k_asm); (case X => k_asm); (case N => k_asm); (case s => walk_at "mine subT"); k_whole)))
set_option hygiene false in
local macro_rules | `(tactic| walk_at "getMethod ref") => `(tactic| ((with_reducible show wpAny _ _ (getMethod (Value.ref (KS.c _)) (PySem.Str.ofString "back") _) _ _ _); k_dflt (refine' Mine.gm_cur ?S ?C ?F ?X ?N ?s MN.back ?_; (case S => assumption); (case C => assumption); (case F => k_asm); (case X => k_asm); (case N => k_asm); (case s => walk_at "mine subT"); k_whole)))
set_option hygiene false in
local macro_rules | `(tactic| walk_at "getMethod ref") => `(tactic| ((with_reducible show wpAny _ _ (getMethod (Value.ref inner) (PySem.Str.ofString "valid") _) _ _ _); k_dflt (refine' Mine.gm_cur ?S ?C ?F ?X ?N ?s MN.valid ?_; (case S => assumption); (case C => assumption); (case F => k_asm); (case X => k_asm); (case N => k_asm); (case s => walk_at "mine subT"); k_whole)))
set_option hygiene false in
local macro_rules | `(tactic| walk_at "getMethod ref") => `(tactic| ((with_reducible show wpAny _ _ (getMethod (Value.ref inner) (PySem.Str.ofString "key") _) _ _ _); k_dflt (refine' Mine.gm_cur ?S ?C ?F ?X ?N ?s MN.key ?_; (case S => assumption); (case C => assumption); (case F => k_asm); (case X => k_asm); (case N => k_asm); (case s => walk_at "mine subT"); k_whole)))
set_option hygiene false in
local macro_rules | `(tactic| walk_at "getMethod ref") => `(tactic| ((with_reducible show wpAny _ _ (getMethod (Value.ref inner) (PySem.Str.ofString "value") _) _ _ _); k_dflt (refine' Mine.gm_cur ?S ?C ?F ?X ?N ?s MN.value ?_; (case S => assumption); (case C => assumption); (case F => k_asm); (case X => k_asm); (case N => k_asm); (case s => walk_at "mine subT"); k_whole)))
set_option hygiene false in
local macro_rules | `(tactic| walk_at "getMethod ref") => `(tactic| ((with_reducible show wpAny _ _ (getMethod (Value.ref inner) (PySem.Str.ofString "seek_first") _) _ _ _); k_dflt (refine' Mine.gm_cur ?S ?C ?F ?X ?N ?s MN.first ?_; (case S => assumption); (case C => assumption); (case F => k_asm); (case X => k_asm); (case N => k_asm); (case s => walk_at "mine subT"); k_whole)))
set_option hygiene false in
local macro_rules | `(tactic| walk_at "getMethod ref") => `(tactic| ((with_reducible show wpAny _ _ (getMethod (Value.ref inner) (PySem.Str.ofString "seek_last") _) _ _ _); k_dflt (refine' Mine.gm_cur ?S ?C ?F ?X ?N ?s MN.last ?_; (case S => assumption); (case C => assumption); (case F => k_asm); (case X => k_asm); (case N => k_asm); (case s => walk_at "mine subT"); k_whole)))
set_option hygiene false in
local macro_rules | `(tactic| walk_at "getMethod ref") => `(tactic| ((with_reducible show wpAny _ _ (getMethod (Value.ref inner) (PySem.Str.ofString "seek") _) _ _ _); k_dflt (refine' Mine.gm_cur ?S ?C ?F ?X ?N ?s MN.seek ?_; (case S => assumption); (case C => assumption); (case F => k_asm); (case X => k_asm); (case N => k_asm); (case s => walk_at "mine subT"); k_whole)))
set_option hygiene false in
local macro_rules | `(tactic| walk_at "getMethod ref") => `(tactic| ((with_reducible show wpAny _ _ (getMethod (Value.ref inner) (PySem.Str.ofString "step") _) _ _ _); k_dflt (refine' Mine.gm_cur ?S ?C ?F ?X ?N ?s MN.step ?_; (case S => assumption); (case C => assumption); (case F => k_asm); (case X => k_asm); (case N => k_asm); (case s => walk_at "mine subT"); k_whole)))
set_option hygiene false in
local macro_rules | `(tactic| walk_at "getMethod ref") => `(tactic| ((with_reducible show wpAny _ _ (getMethod (Value.ref inner) (PySem.Str.ofString "back") _) _ _ _); k_dflt (refine' Mine.gm_cur ?S ?C ?F ?X ?N ?s MN.back ?_; (case S => assumption); (case C => assumption); (case F => k_asm); (case X => k_asm); (case N => k_asm); (case s => walk_at "mine subT"); k_whole)))
set_option hygiene false in
local macro_rules | `(tactic| walk_at "callWith ref") => `(tactic| ((with_reducible show wpAny _ _ (callWith _ (Value.ref (Mine.adr _ _)) _ _ _) _ _ _); k_dflt (first | (refine' callWith_K ?k1 (Mine.keep_cur _ _ _) ?_; (case k1 => k_asm); k_whole) | (refine' callWith_K0 ?k1 (Mine.keep_cur _ _ _) ?_; (case k1 => k_in); k_whole))))
set_option hygiene false in
local macro_rules | `(tactic| walk_at "call ref") => `(tactic| ((with_reducible show wpAny _ _ (call (Value.ref (Mine.adr _ MN.valid)) _) _ _ _); k_dflt (refine' Mine.use_valid ?S ?C ?B ?F ?X ?N ?T ?hk ?hd ?hu ?s ?_; (case S => assumption); (case C => assumption); walk_at "mine std"; (case s => walk_at "mine subT"); k_whole; intro h' tk' F' N'; (try k_sweep))))
set_option hygiene false in
local macro_rules | `(tactic| walk_at "call ref") => `(tactic| ((with_reducible show wpAny _ _ (call (Value.ref (Mine.adr _ MN.key)) _) _ _ _); k_dflt (refine' Mine.use_key ?S ?C ?B ?F ?X ?N ?T ?hk ?hd ?hu ?x ?s ?_; (case S => assumption); (case C => assumption); walk_at "mine std"; (case x => assumption); (case s => walk_at "mine subT"); k_whole; intro t' h' tk' F' N'; (try k_sweep))))
set_option hygiene false in
local macro_rules | `(tactic| walk_at "call ref") => `(tactic| ((with_reducible show wpAny _ _ (call (Value.ref (Mine.adr _ MN.value)) _) _ _ _); k_dflt (refine' Mine.use_value ?S ?C ?B ?F ?X ?N ?T ?hk ?hd ?hu ?x ?s ?_; (case S => assumption); (case C => assumption); walk_at "mine std"; (case x => assumption); (case s => walk_at "mine subT"); k_whole; intro t' h' tk' F' N'; (try k_sweep))))
set_option hygiene false in
local macro_rules | `(tactic| walk_at "call ref") => `(tactic| ((with_reducible show wpAny _ _ (call (Value.ref (Mine.adr _ MN.valid)) _) _ _ _); k_dflt (refine' Mine.use_valid_none ?S ?C ?B ?F ?X ?N ?T ?hk ?hd ?hu ?s ?_; (case S => assumption); (case C => assumption); walk_at "mine std"; (case s => walk_at "mine subT"); k_whole; intro h' tk' F' N'; (try k_sweep))))
set_option hygiene false in
local macro_rules | `(tactic| walk_at "call ref") => `(tactic| ((with_reducible show wpAny _ _ (call (Value.ref (Mine.adr _ MN.valid)) _) _ _ _); k_dflt (refine' Mine.use_valid_some ?S ?C ?B ?F ?X ?N ?T ?hk ?hd ?hu ?s ?_; (case S => assumption); (case C => assumption); walk_at "mine std"; (case s => walk_at "mine subT"); k_whole; intro h' tk' F' N'; (try k_sweep))))
set_option hygiene false in
local macro_rules | `(tactic| walk_at "call type:range") => `(tactic| ((rename Fr _ _ _ _ => F'); (rename News _ _ _ _ => N'); first | (with_unfolding_all refine range1_rows F' N' ?_; intro h' tk' t1' u1' v1' R' F' N' G') | (with_unfolding_all refine range3_rows F' N' (by decide) ?_; intro h' tk' t1' u1' v1' R' F' N' G')))
set_option hygiene false in
local macro_rules | `(tactic| walk_at "setItem ref int") => `(tactic| ((with_reducible show wpAny _ _ (setItem (Value.ref _) (Value.int _ _) _) _ _ _); k_dflt (refine' Mine.set_list ?F ?N ?U ?a ?b ?c ?_; (case F => k_asm); (case N => k_asm); (case U => k_upd); (case a => omega); (case b => omega); (case c => omega); k_whole; intro h' F' N'; (try k_sweep))))
set_option hygiene false in
local macro_rules | `(tactic| walk_at "subscriptTail") => `(tactic| ((with_reducible show wpAny _ _ (subscriptTail _ _ (Value.ref _) (Value.int _ _)) _ _ _); k_dflt (refine' Mine.item_P Mine.BndV ?N ?m ?a ?b ?z ?al ?_; (case N => k_asm); (case m => walk_at "mine tup"); (case a => (first | omega | exact Int.fmod_nonneg_of_pos _ (by decide))); (case b => (simp only [List.size_toArray, List.length_cons, List.length_nil]; first | omega | exact Int.fmod_lt_of_pos _ (by decide))); (case z => (simp only [List.size_toArray, List.length_cons, List.length_nil]; omega)); (case al => (repeat (first | exact Mine.all_P0 | refine Mine.all_P1 (by first | exact Mine.bndV0 | exact Mine.bndV1 (by decide)) ?_))); k_whole; rintro _ ⟨bv, bt, rfl, hbv⟩)))
set_option hygiene false in
local macro_rules | `(tactic| walk_at "subscriptTail") => `(tactic| ((with_reducible show wpAny _ _ (subscriptTail _ _ (Value.ref _) (Value.int _ _)) _ _ _); k_dflt (refine' Mine.item_P Mine.TgtV ?N ?m ?a ?b ?z ?al ?_; (case N => k_asm); (case m => walk_at "mine tup"); (case a => (first | omega | exact Int.fmod_nonneg_of_pos _ (by decide))); (case b => (simp only [List.size_toArray, List.length_cons, List.length_nil]; first | omega | exact Int.fmod_lt_of_pos _ (by decide))); (case z => (simp only [List.size_toArray, List.length_cons, List.length_nil]; omega)); (case al => (repeat (first | exact Mine.all_P0 | refine Mine.all_P1 (Mine.tgtV (by decide)) ?_))); k_whole; rintro _ ⟨tv9, tt9, rfl, htv⟩)))
set_option hygiene false in
local macro_rules | `(tactic| walk_at "subscriptTail") => `(tactic| ((with_reducible show wpAny _ _ (subscriptTail _ _ (Value.ref _) (Value.int _ _)) _ _ _); k_dflt (refine' Mine.item_P Mine.LimV ?N ?m ?a ?b ?z ?al ?_; (case N => k_asm); (case m => walk_at "mine tup"); (case a => (first | omega | exact Int.fmod_nonneg_of_pos _ (by decide))); (case b => (simp only [List.size_toArray, List.length_cons, List.length_nil]; first | omega | exact Int.fmod_lt_of_pos _ (by decide))); (case z => (simp only [List.size_toArray, List.length_cons, List.length_nil]; omega)); (case al => (repeat (first | exact Mine.all_P0 | refine Mine.all_P1 (Mine.limV (by omega) (by omega)) ?_))); k_whole; rintro _ ⟨uv, ut, rfl, huv0, huv1⟩)))
set_option hygiene false in
local macro_rules | `(tactic| walk_at "subscriptTail") => `(tactic| ((with_reducible show wpAny _ _ (subscriptTail _ _ (Value.ref _) (Value.int _ _)) _ _ _); k_dflt (refine' Mine.item_P Mine.UsrV ?N ?m ?a ?b ?z ?al ?_; (case N => k_asm); (case m => walk_at "mine tup"); (case a => (first | omega | exact Int.fmod_nonneg_of_pos _ (by decide))); (case b => (simp only [List.size_toArray, List.length_cons, List.length_nil]; first | omega | exact Int.fmod_lt_of_pos _ (by decide))); (case z => (simp only [List.size_toArray, List.length_cons, List.length_nil]; omega)); (case al => (repeat (first | exact Mine.all_P0 | refine Mine.all_P1 (Mine.usrV (by decide)) ?_))); k_whole; rintro _ ⟨us, ust, rfl, hus⟩)))
set_option hygiene false in
local macro_rules | `(tactic| walk_at "subscriptTail") => `(tactic| ((with_reducible show wpAny _ _ (subscriptTail _ _ (Value.ref _) (Value.int _ _)) _ _ _); k_dflt (refine' Mine.item_P Mine.SeqV ?N ?m ?a ?b ?z ?al ?_; (case N => k_asm); (case m => walk_at "mine tup"); (case a => (first | omega | exact Int.fmod_nonneg_of_pos _ (by decide))); (case b => (simp only [List.size_toArray, List.length_cons, List.length_nil]; first | omega | exact Int.fmod_lt_of_pos _ (by decide))); (case z => (simp only [List.size_toArray, List.length_cons, List.length_nil]; omega)); (case al => (repeat (first | exact Mine.all_P0 | refine Mine.all_P1 (by first | exact Mine.seqV1 | exact Mine.seqV2 | exact Mine.seqV3 | exact Mine.seqV4 | exact Mine.seqV5) ?_))); k_whole; rintro _ ⟨sq, st9, rfl, hsq⟩)))
set_option hygiene false in
local macro_rules | `(tactic| walk_at "call ref") => `(tactic| ((with_reducible show wpAny _ _ (call (Value.ref 657) _) _ _ _); k_dflt (refine' Mine.draw_r ?B ?F ?X ?N ?T ?hk ?hd ?hu ?s1 ?s2 ?s3 ?_; walk_at "mine std"; (case s1 => first | assumption | (refine' Mine.NumsIn.mono ?nn ?ns; (case nn => assumption); (case ns => walk_at "mine sub"))); (case s2 => omega); (case s3 => omega); k_whole; intro z' t' h' tk' F' N' hz'; (try k_sweep))))
set_option hygiene false in
local macro_rules | `(tactic| walk_at "mine open1") => `(tactic| ((conv in (occs := *) lawSc => all_goals whnf); (conv in (lawAt _) => whnf)))
set_option hygiene false in
local macro_rules | `(tactic| walk_at "mine openB1") => `(tactic| ((conv in (occs := *) lawSc => all_goals whnf); (conv in (lawBody _ _) => whnf)))
set_option hygiene false in
local macro_rules | `(tactic| walk_at "mine open2") => `(tactic| ((conv in (occs := *) lawSc => all_goals whnf); (conv in (lawAt _) => whnf); (conv in (lawAt _) => whnf)))
set_option hygiene false in
local macro_rules | `(tactic| walk_at "mine openB2") => `(tactic| ((conv in (occs := *) lawSc => all_goals whnf); (conv in (lawBody _ _) => whnf); (conv in (lawBody _ _) => whnf)))
set_option hygiene false in
local macro_rules | `(tactic| walk_at "mine open3") => `(tactic| ((conv in (occs := *) lawSc => all_goals whnf); (conv in (lawAt _) => whnf); (conv in (lawAt _) => whnf); (conv in (lawAt _) => whnf)))
set_option hygiene false in
local macro_rules | `(tactic| walk_at "mine openB3") => `(tactic| ((conv in (occs := *) lawSc => all_goals whnf); (conv in (lawBody _ _) => whnf); (conv in (lawBody _ _) => whnf); (conv in (lawBody _ _) => whnf)))
set_option hygiene false in
local macro_rules | `(tactic| walk_at "mine open4") => `(tactic| ((conv in (occs := *) lawSc => all_goals whnf); (conv in (lawAt _) => whnf); (conv in (lawAt _) => whnf); (conv in (lawAt _) => whnf); (conv in (lawAt _) => whnf)))
set_option hygiene false in
local macro_rules | `(tactic| walk_at "mine openB4") => `(tactic| ((conv in (occs := *) lawSc => all_goals whnf); (conv in (lawBody _ _) => whnf); (conv in (lawBody _ _) => whnf); (conv in (lawBody _ _) => whnf); (conv in (lawBody _ _) => whnf)))
set_option hygiene false in
local macro_rules | `(tactic| walk_at "mine open5") => `(tactic| ((conv in (occs := *) lawSc => all_goals whnf); (conv in (lawAt _) => whnf); (conv in (lawAt _) => whnf); (conv in (lawAt _) => whnf); (conv in (lawAt _) => whnf); (conv in (lawAt _) => whnf)))
set_option hygiene false in
local macro_rules | `(tactic| walk_at "mine openB5") => `(tactic| ((conv in (occs := *) lawSc => all_goals whnf); (conv in (lawBody _ _) => whnf); (conv in (lawBody _ _) => whnf); (conv in (lawBody _ _) => whnf); (conv in (lawBody _ _) => whnf); (conv in (lawBody _ _) => whnf)))
set_option hygiene false in
local macro_rules | `(tactic| walk_at "mine open6") => `(tactic| ((conv in (occs := *) lawSc => all_goals whnf); (conv in (lawAt _) => whnf); (conv in (lawAt _) => whnf); (conv in (lawAt _) => whnf); (conv in (lawAt _) => whnf); (conv in (lawAt _) => whnf); (conv in (lawAt _) => whnf)))
set_option hygiene false in
local macro_rules | `(tactic| walk_at "mine openB6") => `(tactic| ((conv in (occs := *) lawSc => all_goals whnf); (conv in (lawBody _ _) => whnf); (conv in (lawBody _ _) => whnf); (conv in (lawBody _ _) => whnf); (conv in (lawBody _ _) => whnf); (conv in (lawBody _ _) => whnf); (conv in (lawBody _ _) => whnf)))
set_option hygiene false in
local macro_rules | `(tactic| walk_at "mine open7") => `(tactic| ((conv in (occs := *) lawSc => all_goals whnf); (conv in (lawAt _) => whnf); (conv in (lawAt _) => whnf); (conv in (lawAt _) => whnf); (conv in (lawAt _) => whnf); (conv in (lawAt _) => whnf); (conv in (lawAt _) => whnf); (conv in (lawAt _) => whnf)))
set_option hygiene false in
local macro_rules | `(tactic| walk_at "mine openB7") => `(tactic| ((conv in (occs := *) lawSc => all_goals whnf); (conv in (lawBody _ _) => whnf); (conv in (lawBody _ _) => whnf); (conv in (lawBody _ _) => whnf); (conv in (lawBody _ _) => whnf); (conv in (lawBody _ _) => whnf); (conv in (lawBody _ _) => whnf); (conv in (lawBody _ _) => whnf)))
set_option hygiene false in
local macro_rules | `(tactic| walk_at "mine stepsR") => `(tactic| repeat' (first | ((fail_if_success (with_reducible show wpAny _ _ (execs R _) _ _ _)); (first | (k_unfold; (try dsimp only)) | walk1 | (dsimp only; walk1) | (leave1; walk_say "STEP leave1"; (try dsimp only)) | fail "no step"))))
theorem NumsIn.mono {rest rest' : Led} {nl : Addr} {vs : Array Value} {n k : Nat} (h : NumsIn rest nl vs n k) (hs : ∀ p ∈ rest, p ∈ rest') : NumsIn rest' nl vs n k := ⟨hs _ h.lst, h.size, h.pos, h.small, h.num⟩
section
variable {w : World} {A₀ : Around} {base h₀ : Heap} {L a : Addr} {ccd : Value} {m mg mb : Str → Option Value} {mean : ExcName → Option Value} {s : Shared} {rest led : Led} {Q : Flow → Shared → Prop} {E : Value → Shared → Prop} {R : List Stmt}
set_option maxHeartbeats 8000000 in
theorem st5 {z : Int} {tz : Tok} (B : Below A₀ base [] h₀) (F : Fr h₀ L s.heap m) (X : (Mine.hd.heap_39 w.params).In h₀) (N : News h₀ L s.heap (rest)) (T : Top VW (looseW VW []) mean mg mb h₀)
    (hz : m "setup" = some (.int z tz)) (hz0 : 0 ≤ z) (hz1 : z < 2000000)
    (k : ∀ uv ut h' tk', 0 ≤ uv → uv ≤ 1099511627776 → Fr h₀ L h' (fun y => if y = "upto" then some (.int uv ut) else m y) → News h₀ L h' (rest) → wpAny (model Challenge.rw_no0415_01.row.prog w) (callerA.deeper (envOfC (Str.ofString "law") lawSc L a ccd)) (execs (R) (envOfC (Str.ofString "law") lawSc L a ccd)) Q E { s with heap := h', toks := tk' }) :
    wpAny (model Challenge.rw_no0415_01.row.prog w) (callerA.deeper (envOfC (Str.ofString "law") lawSc L a ccd)) (execs (lawAt 5 :: R) (envOfC (Str.ofString "law") lawSc L a ccd)) Q E s := by
  walk_at "mine open1"
  ((rename Frag.In _ _ => X1); revert X1; k_fill; intro X1)
  walk_at "mine stepsR"
  rename Fr _ _ _ _ => FF
  rename News _ _ _ _ => NN
  exact k _ _ _ _ huv0 huv1 FF (news_of NN (by walk_at "mine sub"))
set_option maxHeartbeats 8000000 in
theorem st6 {z : Int} {tz : Tok} (B : Below A₀ base [] h₀) (F : Fr h₀ L s.heap m) (X : (Mine.hd.heap_39 w.params).In h₀) (N : News h₀ L s.heap (rest)) (T : Top VW (looseW VW []) mean mg mb h₀)
    (hz : m "setup" = some (.int z tz)) (hz0 : 0 ≤ z) (hz1 : z < 2000000)
    (k : ∀ bv bt h' tk', (∀ b, bv = some b → b.size ≤ 8) → Fr h₀ L h' (fun y => if y = "low" then some (bndV bv bt) else m y) → News h₀ L h' (rest) → wpAny (model Challenge.rw_no0415_01.row.prog w) (callerA.deeper (envOfC (Str.ofString "law") lawSc L a ccd)) (execs (R) (envOfC (Str.ofString "law") lawSc L a ccd)) Q E { s with heap := h', toks := tk' }) :
    wpAny (model Challenge.rw_no0415_01.row.prog w) (callerA.deeper (envOfC (Str.ofString "law") lawSc L a ccd)) (execs (lawAt 6 :: R) (envOfC (Str.ofString "law") lawSc L a ccd)) Q E s := by
  walk_at "mine open1"
  ((rename Frag.In _ _ => X1); revert X1; k_fill; intro X1)
  walk_at "mine stepsR"
  rename Fr _ _ _ _ => FF
  rename News _ _ _ _ => NN
  exact k _ _ _ _ hbv FF (news_of NN (by walk_at "mine sub"))
set_option maxHeartbeats 8000000 in
theorem st7 {z : Int} {tz : Tok} (B : Below A₀ base [] h₀) (F : Fr h₀ L s.heap m) (X : (Mine.hd.heap_39 w.params).In h₀) (N : News h₀ L s.heap (rest)) (T : Top VW (looseW VW []) mean mg mb h₀)
    (hz : m "setup" = some (.int z tz)) (hz0 : 0 ≤ z) (hz1 : z < 2000000)
    (k : ∀ bv bt h' tk', (∀ b, bv = some b → b.size ≤ 8) → Fr h₀ L h' (fun y => if y = "high" then some (bndV bv bt) else m y) → News h₀ L h' (rest) → wpAny (model Challenge.rw_no0415_01.row.prog w) (callerA.deeper (envOfC (Str.ofString "law") lawSc L a ccd)) (execs (R) (envOfC (Str.ofString "law") lawSc L a ccd)) Q E { s with heap := h', toks := tk' }) :
    wpAny (model Challenge.rw_no0415_01.row.prog w) (callerA.deeper (envOfC (Str.ofString "law") lawSc L a ccd)) (execs (lawAt 7 :: R) (envOfC (Str.ofString "law") lawSc L a ccd)) Q E s := by
  walk_at "mine open1"
  ((rename Frag.In _ _ => X1); revert X1; k_fill; intro X1)
  walk_at "mine stepsR"
  rename Fr _ _ _ _ => FF
  rename News _ _ _ _ => NN
  exact k _ _ _ _ hbv FF (news_of NN (by walk_at "mine sub"))
end
open PySem PySem.W PyProof.Rows PySem.Spec
set_option maxRecDepth 100000
local macro_rules | `(tactic| walk_at "eval Call Attribute") => `(tactic| refine PyProof.Rows.MethodCall_ ?_)
section
variable {w : World} {A₀ : Around} {base h₀ : Heap} {L a : Addr} {ccd : Value} {m mg mb : Str → Option Value} {mean : ExcName → Option Value} {s : Shared} {rest led : Led} {Q : Flow → Shared → Prop} {E : Value → Shared → Prop} {R : List Stmt}
set_option maxHeartbeats 8000000 in
theorem st8 {oE : Obj} {v0 : Option Value} (B : Below A₀ base [] h₀) (F : Fr h₀ L s.heap m) (X : (Mine.hd.heap_39 w.params).In h₀) (N : News h₀ L s.heap ((L + 1, oE) :: rest)) (T : Top VW (looseW VW []) mean mg mb h₀)
    (hE : oE.data = .cell v0) (hr : ∀ p ∈ rest, p.1 ≠ L + 1)
    (k : ∀ el oE' n h' tk', oE'.data = .cell (some (.ref el)) → @LT.lt Nat _ (L + 1) el → (∀ p ∈ rest, @LT.lt Nat _ p.1 el) → Fr h₀ L h' (m) → News h₀ L h' ((el, listOf #[] n) :: (L + 1, oE') :: rest) → wpAny (model Challenge.rw_no0415_01.row.prog w) (callerA.deeper (envOfC (Str.ofString "law") lawSc L a ccd)) (execs (R) (envOfC (Str.ofString "law") lawSc L a ccd)) Q E { s with heap := h', toks := tk' }) :
    wpAny (model Challenge.rw_no0415_01.row.prog w) (callerA.deeper (envOfC (Str.ofString "law") lawSc L a ccd)) (execs (lawAt 8 :: R) (envOfC (Str.ofString "law") lawSc L a ccd)) Q E s := by
  walk_at "mine open1"
  (have X1 := X; revert X1; k_fill; intro X1)
  walk_at "mine stepsR"
  rename Fr _ _ _ _ => FF
  rename News _ _ _ _ => NN
  rename _ < _ ∧ AllLt _ rest => l1
  rename _ = Data.cell (some (Value.ref _)) => d1
  exact k _ _ _ _ _ d1 l1.1 (allLt_mem l1.2) FF NN
set_option maxHeartbeats 8000000 in
theorem st9a {nl : Addr} {vs : Array Value} {n kk i cnt : Nat} {ti tc : Tok} (B : Below A₀ base [] h₀) (F : Fr h₀ L s.heap m) (X : (Mine.hd.heap_39 w.params).In h₀) (N : News h₀ L s.heap (led)) (T : Top VW (looseW VW []) mean mg mb h₀)
    (hn : NumsIn led nl vs n kk) (e1 : m "nums" = some (.ref nl)) (e2 : m "count" = some (.int (cnt : Int) tc)) (e3 : m "i" = some (.int (i : Int) ti)) (hi : i < 5) (hc : 0 < cnt) (hc2 : cnt ≤ 3)
    (k : ∀ hd u (q kd c : Nat) t1 t2 t3 t4 nn m' h' tk', u ∈ usersL → seqOk q → kd ≤ 1 → c < cnt → (∀ p ∈ led, @LT.lt Nat _ p.1 hd) → (∀ y : Str, y ≠ "x" → y ≠ "kind" → y ≠ "head" → m' y = m y) → m' "head" = some (.ref hd) → Fr h₀ L h' m' → News h₀ L h' ((hd, tupObj [.bytes u t1, .int (0 - (q : Int)) t2, .int (0 - (kd : Int)) t3, .int (c : Int) t4] nn) :: led) → wpAny (model Challenge.rw_no0415_01.row.prog w) (callerA.deeper (envOfC (Str.ofString "law") lawSc L a ccd)) (execs (R) (envOfC (Str.ofString "law") lawSc L a ccd)) Q E { s with heap := h', toks := tk' }) :
    wpAny (model Challenge.rw_no0415_01.row.prog w) (callerA.deeper (envOfC (Str.ofString "law") lawSc L a ccd)) (execs (lawBody 9 0 :: lawBody 9 1 :: lawBody 9 2 :: lawBody 9 3 :: R) (envOfC (Str.ofString "law") lawSc L a ccd)) Q E s := by
  walk_at "mine openB4"
  (have X1 := X; revert X1; k_fill; intro X1)
  walk_at "mine stepsR"
  all_goals
    rename Fr _ _ _ _ => FF
    rename News _ _ _ _ => NN
    rename _ < _ ∧ _ < _ ∧ AllLt _ led => l1
    have c0 := Int.fmod_nonneg_of_pos (z'.fdiv 60 + (i : Int)) (b := (cnt : Int)) (by omega)
    have c1 := Int.fmod_lt_of_pos (z'.fdiv 60 + (i : Int)) (b := (cnt : Int)) (by omega)
    obtain ⟨c, hc9⟩ := Int.eq_ofNat_of_zero_le c0
    rw [hc9] at NN c1
  · exact k _ us sq 0 c _ _ _ _ _ _ _ _ hus hsq (by omega) (by omega) (allLt_mem l1.2.2) (fun y h1 h2 h3 => by simp only [if_neg h1, if_neg h2, if_neg h3]) rfl FF (news_of NN (fun p hp => by rcases List.mem_cons.mp hp with rfl | hp; exact .head _; exact .tail _ (.tail _ (.tail _ hp))))
  · exact k _ us sq 1 c _ _ _ _ _ _ _ _ hus hsq (by omega) (by omega) (allLt_mem l1.2.2) (fun y h1 h2 h3 => by simp only [if_neg h1, if_neg h2, if_neg h3]) rfl FF (news_of NN (fun p hp => by rcases List.mem_cons.mp hp with rfl | hp; exact .head _; exact .tail _ (.tail _ (.tail _ hp))))
end
open PySem PySem.W PyProof.Rows PySem.Spec
set_option maxRecDepth 100000
set_option hygiene false in
local macro_rules | `(tactic| walk_at "subscriptTail Name Slice ref ref") => `(tactic| ((with_reducible show wpAny _ _ (subscriptTail _ (PySem.Expr.Slice _ _ none _) (Value.ref _) (Value.ref _)) _ _ _); k_dflt (refine' Mine.slice_tup ?F ?N ?m ?a ?b ?z ?e ?_ ?s ?t; (case F => k_asm); (case N => k_asm); (case m => walk_at "mine tup"); (case a => omega); (case b => (simp only [List.length_cons, List.length_nil]; omega)); (case z => (simp only [List.length_cons, List.length_nil]; omega)); (case e => exact rfl); (case s => with_unfolding_all rfl); (case t => kmk_pure); k_whole; intro D' h' F' N' l1; (try k_sweep))))
set_option hygiene false in
local macro_rules | `(tactic| walk_at "mine tup3") => `(tactic| (repeat (first | assumption | exact List.Mem.head _ | refine List.Mem.tail _ ?_)))
set_option hygiene false in
local macro_rules | `(tactic| walk_at "binaryOp Add ref ref") => `(tactic| ((with_reducible show wpAny _ _ (binaryOp _ (Value.ref _) (Value.ref _)) _ _ _); k_dflt (refine' Mine.add_tup ?F ?N ?m ?b ?v ?w ?z ?_; (case F => k_asm); (case N => k_asm); (case m => walk_at "mine tup3"); (case b => walk_at "mine tup3"); (case v => exact List.cons_ne_nil _ _); (case w => exact List.cons_ne_nil _ _); (case z => (simp only [List.length_cons, List.length_nil]; omega)); k_whole; intro D' h' F' N' l1; (try k_lt l1); (try k_sweep))))
set_option hygiene false in
local macro_rules | `(tactic| walk_at "mine stepsC") => `(tactic| repeat' (first | ((fail_if_success (with_reducible show wpAny _ _ (execs R _) _ _ _)); (fail_if_success (with_reducible show wpAny _ _ (eval (PySem.Expr.ListComp _ _ _ _) _) _ _ _)); (fail_if_success (with_reducible show PyProof.Rows.LCg.CompSrc _ _ _ _ _ _ _ _ _ _ _ _ _ _)); (fail_if_success (with_reducible show PyProof.Rows.LCg.CompEnd _ _ _ _ _ _ _ _ _ _ _ _ _ _)); (fail_if_success (with_reducible show PyProof.Rows.LCt.CompSrcT _ _ _ _ _ _ _ _ _ _ _ _ _ _ _)); (fail_if_success (with_reducible show wpAny _ _ (compareOp Cmpop.NotIn _ _) _ _ _)); (first | (k_unfold; (try dsimp only)) | walk1 | (dsimp only; walk1) | (leave1; walk_say "STEP leave1"; (try dsimp only)) | fail "no step"))))
section
variable {w : World} {A₀ : Around} {base h₀ : Heap} {L a : Addr} {ccd : Value} {m mg mb : Str → Option Value} {mean : ExcName → Option Value} {s : Shared} {rest led : Led} {Q : Flow → Shared → Prop} {E : Value → Shared → Prop} {R : List Stmt}
set_option maxHeartbeats 8000000 in
theorem st9b {el hd : Addr} {vs : Array Value} {n nn i : Nat} {ti : Tok} {ents : List Ent} {u : Array UInt8} {q kd c : Nat} {t1 t2 t3 t4 : Tok} {oE : Obj} (B : Below A₀ base [] h₀) (F : Fr h₀ L s.heap m) (X : (Mine.hd.heap_39 w.params).In h₀) (N : News h₀ L s.heap ((el, listOf vs n) :: led)) (T : Top VW (looseW VW []) mean mg mb h₀)
    (e1 : m "head" = some (.ref hd)) (e3 : m "i" = some (.int (i : Int) ti)) (hi : i < 5) (hE : oE.data = .cell (some (.ref el))) (hcE : (L + 1, oE) ∈ led) (hel : ∀ p ∈ led, p.1 ≠ el) (hhd : (hd, tupObj [.bytes u t1, .int (0 - (q : Int)) t2, .int (0 - (kd : Int)) t3, .int (c : Int) t4] nn) ∈ led) (hen : EntsIn led vs ents) (h5 : ents.length ≤ 5)
    (k : (ents ≠ [] → ∀ h' tk', Fr h₀ L h' m → News h₀ L h' ((el, listOf vs n) :: led) → wpAny (model Challenge.rw_no0415_01.row.prog w) (callerA.deeper (envOfC (Str.ofString "law") lawSc L a ccd)) (execs (R) (envOfC (Str.ofString "law") lawSc L a ccd)) Q E { s with heap := h', toks := tk' }) ∧ (∀ ae t1 t2 t3 t4 t5 n' nn h' tk', (∀ p ∈ led, @LT.lt Nat _ p.1 ae) → @Ne Nat ae el → Fr h₀ L h' m → News h₀ L h' ((el, listOf (vs.push (.ref ae)) n') :: (ae, tupObj [.bytes u t1, .int (0 - (q : Int)) t2, .int (0 - (kd : Int)) t3, .int (c : Int) t4, .bytes #[(65 + (i : Int)).toNat.toUInt8] t5] nn) :: led) → wpAny (model Challenge.rw_no0415_01.row.prog w) (callerA.deeper (envOfC (Str.ofString "law") lawSc L a ccd)) (execs (R) (envOfC (Str.ofString "law") lawSc L a ccd)) Q E { s with heap := h', toks := tk' })) :
    wpAny (model Challenge.rw_no0415_01.row.prog w) (callerA.deeper (envOfC (Str.ofString "law") lawSc L a ccd)) (execs (lawBody 9 4 :: R) (envOfC (Str.ofString "law") lawSc L a ccd)) Q E s := by
  walk_at "mine openB1"
  (have X1 := X; revert X1; k_fill; intro X1)
  walk_at "mine stepsC"
  rename Fr _ _ _ _ => FF
  rename News _ _ _ _ => NN
  refine' PyProof.Rows.LCg.ListComp_U (F₀ := FF) (by with_unfolding_all rfl) (by decide) (by rfl) (by decide) (by rfl) ?_
  walk_at "mine stepsC"
  refine PyProof.Rows.LCg.CompSrc.ledger (its := vs) (k := n) rfl FF NN (.head _) (by have := hen.size; rw [sizeLine_eq]; omega) fun g => ?_
  refine compRest_inv (fun j ys nw => (∀ p ∈ (el, listOf vs n) :: led, p ∈ nw) ∧ ys.length = j ∧ ∀ y ∈ ys, ∃ a xs ds n, y = .ref a ∧ a ≠ hd ∧ (a, tupObj xs n) ∈ nw ∧ FAll xs ds ∧ kindsAll ds [.b u, .i (0 - (q : Int)), .i (0 - (kd : Int)), .i (c : Int)]) vs.size ?step ?fin _ 0 [] _ (Nat.zero_add _) ⟨fun p hp => hp, rfl, fun y hy => by cases hy⟩
  case step =>
    rintro j ys nw v I oI C oC D m₂ h tk E' hj ⟨g1, g2, g3⟩ hP hNs hx FF NN hO ⟨n1, n2, n3⟩
    obtain ⟨e9, he9⟩ : ∃ e, ents[j]? = some e := ⟨_, List.getElem?_eq_getElem (by have := hen.size; omega)⟩
    obtain ⟨aa, xs, kx, hv, hxm, hxf⟩ := hen.at' j e9 he9
    rw [hv] at hP
    cases hP
    obtain ⟨y1, y2, y3, y4, y5, rfl⟩ := FAll_ent hxf
    have hxm2 := g1 _ (.tail _ hxm)
    walk_at "mine stepsC"
    rename Fr _ _ _ _ => F2
    rename News _ _ _ _ => N2
    refine PyProof.Rows.LCg.CompEnd.intro F2 N2 ((D', tupObj [.bytes e9.u y1, .int (0 - (e9.q : Int)) y2, .int (0 - (e9.k : Int)) y3, .int (e9.c : Int) y4] 0) :: nw) (fun p hp => ?_) ⟨⟨?_, ?_, ?_⟩, hO⟩ (.inr ⟨_, .tail _ (g1 _ (.head _)), rfl, _, rfl⟩) ⟨fun p hp => .tail _ (g1 p hp), by simp [g2], fun y hy => ?_⟩
    · rcases List.mem_cons.mp hp with rfl | hp
      · exact .tail _ (.head _)
      · rcases List.mem_cons.mp hp with rfl | hp
        · exact .tail _ (.tail _ (.head _))
        · rcases List.mem_cons.mp hp with rfl | hp
          · exact .tail _ (.tail _ (.tail _ (.head _)))
          · rcases List.mem_cons.mp hp with rfl | hp
            · exact .head _
            · exact .tail _ (.tail _ (.tail _ (.tail _ hp)))
    · exact (Nat.ne_of_lt (l1 _ (.head _))).symm
    · exact (Nat.ne_of_lt (l1 _ (.tail _ (.head _)))).symm
    · exact (Nat.ne_of_lt (l1 _ (.tail _ (.tail _ (.head _))))).symm
    · rcases List.mem_append.mp hy with hy | hy
      · obtain ⟨a', xs', ds', n', r1, r2, r3, r4, r5⟩ := g3 y hy
        exact ⟨a', xs', ds', n', r1, r2, .tail _ r3, r4, r5⟩
      · rw [List.mem_singleton.mp hy]
        exact ⟨D', _, [.b e9.u, .i (0 - (e9.q : Int)), .i (0 - (e9.k : Int)), .i (e9.c : Int)], _, rfl, (Nat.ne_of_lt (l1 _ (.tail _ (.tail _ (.tail _ (g1 _ (.tail _ hhd))))))).symm, .head _, ⟨⟨_, rfl⟩, ⟨_, rfl⟩, ⟨_, rfl⟩, ⟨_, rfl⟩, trivial⟩, ⟨trivial, trivial, trivial, trivial, trivial⟩⟩
  case fin =>
    clear FF NN
    rintro ys nw ⟨g1, g2, g3⟩
    unfold PyProof.Rows.LCg.FinE
    intro D h tk FF NN hO
    walk_at "mine stepsC"
    rename Fr _ _ _ _ => F2
    rename News _ _ _ _ => N2
    refine Mine.notin_tups N2 (.head _) (.tail _ (g1 _ (.tail _ hhd))) (es := [.b u, .i (0 - (q : Int)), .i (0 - (kd : Int)), .i (c : Int)]) ⟨⟨_, rfl⟩, ⟨_, rfl⟩, ⟨_, rfl⟩, ⟨_, rfl⟩, trivial⟩ (by ktr_units) (fun y hy => ?_) (fun bb hb => ?_)
    · obtain ⟨a', xs', ds', n', r1, r2, r3, r4, r5⟩ := g3 y (by simpa using hy)
      exact ⟨a', xs', ds', n', r1, r2, .tail _ r3, r4, r5⟩
    · have N3 := news_of N2 (b := (el, listOf vs n) :: led) fun p hp => .tail _ (g1 p hp)
      clear N2 g3 hO
      cases bb with
      | false =>
        walk_at "mine stepsC"
        rename Fr _ _ _ _ => F3
        rename News _ _ _ _ => N4
        refine k.1 (fun h0 => ?_) _ _ F3 N4
        subst h0
        have h9 := hb (by have hz := hen.size; have hz2 : vs.size = 0 := hz; simp [g2, hz2])
        cases h9
      | true =>
        have hz := hen.size
        walk_at "mine stepsC"
        rename Fr _ _ _ _ => F3
        rename News _ _ _ _ => N4
        exact k.2 D' _ _ _ _ _ _ _ _ _ (allLt_mem l1.2.2.2) (Nat.ne_of_gt l1.2.2.1) F3 (news_of N4 fun p hp => by
          rcases List.mem_cons.mp hp with rfl | hp
          · exact .tail _ (.tail _ (.tail _ (.head _)))
          · rcases List.mem_cons.mp hp with rfl | hp
            · exact .head _
            · exact .tail _ (.tail _ (.tail _ (.tail _ hp))))
end
open PySem PySem.W PyProof.Rows PySem.Spec
set_option maxRecDepth 100000
set_option hygiene false in
local macro_rules | `(tactic| walk_at "mine stepsF") => `(tactic| repeat' (first | ((fail_if_success (with_reducible show wpAny _ _ (execs R _) _ _ _)); (fail_if_success (with_reducible show wpAny _ _ (exec (PySem.Stmt.For _ _ _ _ _) _) _ _ _)); (fail_if_success (with_reducible show wpAny _ _ (pyIter _) _ _ _)); (first | (k_unfold; (try dsimp only)) | walk1 | (dsimp only; walk1) | (leave1; walk_say "STEP leave1"; (try dsimp only)) | fail "no step"))))
def vByte (j : Nat) : Array UInt8 := #[(65 + (j : Int)).toNat.toUInt8]
theorem vByte_inj {i j : Nat} (hi : i < 5) (hj : j < 5) (h : vByte i = vByte j) : i = j := by
  have : ∀ i, i < 5 → ∀ j, j < 5 → vByte i = vByte j → i = j := by decide
  exact this i hi j hj h
/-- the entries as the first loop leaves them -/
structure Ents9 (rest : Led) (el cE : Addr) (cnt i : Nat) (tl : Led) (vs : Array Value) (ents : List Ent) : Prop where
  sub : ∀ p ∈ rest, p ∈ tl
  off : ∀ p ∈ tl, p.1 ≠ el ∧ p.1 ≠ cE
  new : ∀ p ∈ tl, p ∈ rest ∨ ∀ q ∈ rest, q.1 ≠ p.1
  inn : EntsIn tl vs ents
  len : ents.length ≤ i
  some : 0 < i → ents ≠ []
  ok : ∀ e ∈ ents, e.Ok cnt
  by' : ∀ e ∈ ents, ∃ j, j < i ∧ e.v = vByte j
  pw : ents.Pairwise fun a b => a.v ≠ b.v
theorem Ents9.same {rest tl : Led} {el cE : Addr} {cnt i : Nat} {vs : Array Value} {ents : List Ent} (h : Ents9 rest el cE cnt i tl vs ents) (hn : ents ≠ []) : Ents9 rest el cE cnt (i + 1) tl vs ents :=
  ⟨h.sub, h.off, h.new, h.inn, Nat.le_succ_of_le h.len, fun _ => hn, h.ok, fun e he => by obtain ⟨j, hj, hv⟩ := h.by' e he; exact ⟨j, by omega, hv⟩, h.pw⟩
theorem Ents9.more {rest tl : Led} {el cE : Addr} {cnt i : Nat} {vs : Array Value} {ents : List Ent} (h : Ents9 rest el cE cnt i tl vs ents) (hi : i < 5) {a : Addr} {xs : List Value} {nn : Nat} {e : Ent} (hv : e.v = vByte i) (ho : e.Ok cnt) (hf : FAll xs e.fd) (ha : a ≠ el ∧ a ≠ cE) (hq : ∀ q ∈ rest, q.1 ≠ a) :
    Ents9 rest el cE cnt (i + 1) ((a, tupObj xs nn) :: tl) (vs.push (.ref a)) (ents ++ [e]) := by
  refine ⟨fun p hp => .tail _ (h.sub p hp), fun p hp => ?_, fun p hp => ?_, EntsIn.push (h.inn.mono fun p hp => .tail _ hp) (.head _) hf, by have := h.len; simp; omega, fun _ => by simp, fun e' he => ?_, fun e' he => ?_, ?_⟩
  · rcases List.mem_cons.mp hp with rfl | hp
    · exact ha
    · exact h.off p hp
  · rcases List.mem_cons.mp hp with rfl | hp
    · exact .inr hq
    · exact h.new p hp
  · rcases List.mem_append.mp he with he | he
    · exact h.ok e' he
    · rw [List.mem_singleton.mp he]; exact ho
  · rcases List.mem_append.mp he with he | he
    · obtain ⟨j, hj, hv⟩ := h.by' e' he; exact ⟨j, by omega, hv⟩
    · rw [List.mem_singleton.mp he]; exact ⟨i, by omega, hv⟩
  · rw [List.pairwise_append]
    refine ⟨h.pw, List.pairwise_singleton _ _, fun x hx y hy => ?_⟩
    rw [List.mem_singleton.mp hy, hv]
    obtain ⟨j, hj, hv'⟩ := h.by' x hx
    rw [hv']
    intro e
    have := vByte_inj (by omega) hi e
    omega
section
variable {w : World} {A₀ : Around} {base h₀ : Heap} {L a : Addr} {ccd : Value} {m mg mb : Str → Option Value} {mean : ExcName → Option Value} {s : Shared} {rest led : Led} {Q : Flow → Shared → Prop} {E : Value → Shared → Prop} {R : List Stmt}
set_option maxHeartbeats 8000000 in
theorem st9 {el nl : Addr} {vs : Array Value} {n kk cnt k0 : Nat} {tc : Tok} {oE : Obj} (B : Below A₀ base [] h₀) (F : Fr h₀ L s.heap m) (X : (Mine.hd.heap_39 w.params).In h₀) (N : News h₀ L s.heap ((el, listOf #[] k0) :: (L + 1, oE) :: rest)) (T : Top VW (looseW VW []) mean mg mb h₀)
    (hPE : PassesOwn (model Challenge.rw_no0415_01.row.prog w) (callerA.deeper (envOfC (Str.ofString "law") lawSc L a ccd)) (envOfC (Str.ofString "law") lawSc L a ccd) E) (hn : NumsIn rest nl vs n kk) (e1 : m "nums" = some (.ref nl)) (e2 : m "count" = some (.int (cnt : Int) tc)) (hc : 0 < cnt) (hc2 : cnt ≤ 3) (hE : oE.data = .cell (some (.ref el))) (hLe : @LT.lt Nat _ (L + 1) el) (hr : ∀ p ∈ rest, p.1 ≠ L + 1) (hre : ∀ p ∈ rest, @LT.lt Nat _ p.1 el)
    (k : ∀ ws n' tl ents m' h' tk', Ents9 rest el (L + 1) cnt 5 tl ws ents → (∀ y : Str, y ≠ "i" → y ≠ "x" → y ≠ "kind" → y ≠ "head" → m' y = m y) → Fr h₀ L h' m' → News h₀ L h' ((el, listOf ws n') :: (L + 1, oE) :: tl) → wpAny (model Challenge.rw_no0415_01.row.prog w) (callerA.deeper (envOfC (Str.ofString "law") lawSc L a ccd)) (execs (R) (envOfC (Str.ofString "law") lawSc L a ccd)) Q E { s with heap := h', toks := tk' }) :
    wpAny (model Challenge.rw_no0415_01.row.prog w) (callerA.deeper (envOfC (Str.ofString "law") lawSc L a ccd)) (execs (lawAt 9 :: R) (envOfC (Str.ofString "law") lawSc L a ccd)) Q E s := by
  walk_at "mine open1"
  (have X1 := X; revert X1; k_fill; intro X1)
  walk_at "mine stepsF"
  rename Fr _ _ _ _ => FF
  rename News _ _ _ _ => NN
  refine' For_F FF rfl rfl ?_ (hE := hPE)
  walk_at "mine stepsF"
  rename Fr _ _ _ _ => FF
  rename News _ _ _ _ => NN
  rename IsRange _ _ _ _ _ _ _ _ => RR
  refine iter_up (n := 5) (fun i m₁ news₁ => (∀ y : Str, y ≠ "i" → y ≠ "x" → y ≠ "kind" → y ≠ "head" → m₁ y = m y) ∧ ∃ ws n' tl ents, news₁ = (el, listOf ws n') :: (L + 1, oE) :: tl ∧ Ents9 rest el (L + 1) cnt i tl ws ents) rfl RR (by decide) FF NN ⟨fun _ _ _ _ _ => rfl, _, _, _, _, rfl, fun p hp => hp, fun p hp => ⟨Nat.ne_of_lt (hre p hp), hr p hp⟩, fun p hp => .inl hp, EntsIn.nil, Nat.le_refl _, fun h => absurd h (Nat.lt_irrefl _), fun e he => (nomatch he), fun e he => (nomatch he), .nil⟩ ?turn ?done
  case turn =>
    clear FF NN
    rintro i t m₁ news₁ h tk I o hi ⟨hm, ws, n', tl, ents, rfl, J9⟩ hne F₁ N₁
    have hI1 : @Ne Nat el I := hne _ (.head _)
    have hI2 : @Ne Nat (L + 1) I := hne _ (.tail _ (.head _))
    refine st9a B F₁ X N₁ T (hn.mono fun p hp => .tail _ (.tail _ (.tail _ (J9.sub p hp)))) ((hm "nums" (by decide) (by decide) (by decide) (by decide)).trans e1) ((hm "count" (by decide) (by decide) (by decide) (by decide)).trans e2) (i := i) (ti := t) rfl hi hc hc2 ?_
    intro hd u q kd c t1 t2 t3 t4 nn m' h' tk' gu gq gk gc glt hm' hh F₂ N₂
    refine st9b (el := el) (vs := ws) (n := n') (ents := ents) (led := (hd, tupObj [.bytes u t1, .int (0 - (q : Int)) t2, .int (0 - (kd : Int)) t3, .int (c : Int) t4] nn) :: (I, o) :: (L + 1, oE) :: tl) B F₂ X (news_of N₂ fun p hp => ?_) T hh (i := i) (ti := t) ((hm' "i" (by decide) (by decide) (by decide)).trans rfl) hi hE (.tail _ (.tail _ (.head _))) (fun p hp => ?_) (.head _) (J9.inn.mono fun p hp => .tail _ (.tail _ (.tail _ hp))) (by have := J9.len; omega) ⟨fun hn0 h₃ tk₃ F₃ N₃ => ?_, fun ae s1 s2 s3 s4 s5 n3 nn3 h₃ tk₃ hlt hae F₃ N₃ => ?_⟩
    · rcases List.mem_cons.mp hp with rfl | hp
      · exact .tail _ (.tail _ (.head _))
      · rcases List.mem_cons.mp hp with rfl | hp
        · exact .head _
        · rcases List.mem_cons.mp hp with rfl | hp
          · exact .tail _ (.head _)
          · exact .tail _ (.tail _ (.tail _ hp))
    · rcases List.mem_cons.mp hp with rfl | hp
      · exact (Nat.ne_of_lt (glt _ (.tail _ (.head _)))).symm
      · rcases List.mem_cons.mp hp with rfl | hp
        · exact fun e => hI1 e.symm
        · rcases List.mem_cons.mp hp with rfl | hp
          · exact Nat.ne_of_lt hLe
          · exact (J9.off p hp).1
    · refine wpAny_execs_nil ?_
      refine TurnJ.next (.inl rfl) F₃ N₃ (.tail _ (.tail _ (.head _))) (fun p hp => ?_) hne ⟨fun y h1 h2 h3 h4 => ?_, ws, _, tl, ents, rfl, J9.same hn0⟩
      · rcases List.mem_cons.mp hp with rfl | hp
        · exact .head _
        · exact .tail _ (.tail _ (.tail _ hp))
      · rw [hm' y h2 h3 h4]
        simp only [if_neg h1]
        exact hm y h1 h2 h3 h4
    · refine wpAny_execs_nil ?_
      have h1 : @Ne Nat ae I := (Nat.ne_of_lt (hlt _ (.tail _ (.head _)))).symm
      have h2 : @Ne Nat ae (L + 1) := (Nat.ne_of_lt (hlt _ (.tail _ (.tail _ (.head _))))).symm
      refine TurnJ.next (news' := (el, listOf (ws.push (.ref ae)) n3) :: (L + 1, oE) :: (ae, tupObj [.bytes u s1, .int (0 - (q : Int)) s2, .int (0 - (kd : Int)) s3, .int (c : Int) s4, .bytes #[(65 + (i : Int)).toNat.toUInt8] s5] nn3) :: tl) (.inl rfl) F₃ N₃ (.tail _ (.tail _ (.tail _ (.head _)))) (fun p hp => ?_) (fun p hp => ?_) ⟨fun y h1 h2 h3 h4 => ?_, _, _, _, _, rfl, J9.more hi (nn := nn3) (e := ⟨u, q, kd, c, vByte i⟩) rfl ⟨gu, gq, gk, gc, (by show 1 ≤ 8; decide)⟩ (FAll_of (e := ⟨u, q, kd, c, vByte i⟩)) ⟨hae, h2⟩ (fun q hq => Nat.ne_of_lt (hlt _ (.tail _ (.tail _ (.tail _ (J9.sub q hq))))))⟩
      · rcases List.mem_cons.mp hp with rfl | hp
        · exact .head _
        · rcases List.mem_cons.mp hp with rfl | hp
          · exact .tail _ (.tail _ (.tail _ (.tail _ (.head _))))
          · rcases List.mem_cons.mp hp with rfl | hp
            · exact .tail _ (.head _)
            · exact .tail _ (.tail _ (.tail _ (.tail _ (.tail _ hp))))
      · rcases List.mem_cons.mp hp with rfl | hp
        · exact hI1
        · rcases List.mem_cons.mp hp with rfl | hp
          · exact hI2
          · rcases List.mem_cons.mp hp with rfl | hp
            · exact h1
            · exact hne p (.tail _ (.tail _ hp))
      · rw [hm' y h2 h3 h4]
        simp only [if_neg h1]
        exact hm y h1 h2 h3 h4
  case done =>
    clear FF NN
    rintro m₁ news₁ h tk ⟨hm, ws, n', tl, ents, rfl, J9⟩ F₁ N₁
    exact k _ _ _ _ _ _ _ J9 hm F₁ N₁
end
open PySem PySem.W PyProof.Rows PySem.Spec
set_option maxRecDepth 100000
set_option hygiene false in
local macro_rules | `(tactic| walk_at "mine stepsS") => `(tactic| repeat' (first | ((fail_if_success (with_reducible show wpAny _ _ (execs R _) _ _ _)); (fail_if_success (with_reducible show wpAny _ _ (call (Value.builtin "sorted") _) _ _ _)); (fail_if_success (with_reducible show wpAny _ _ (eval (PySem.Expr.ListComp _ _ _ _) _) _ _ _)); (fail_if_success (with_reducible show PyProof.Rows.LCg.CompSrc _ _ _ _ _ _ _ _ _ _ _ _ _ _)); (fail_if_success (with_reducible show PyProof.Rows.LCg.CompEnd _ _ _ _ _ _ _ _ _ _ _ _ _ _)); (fail_if_success (with_reducible show PyProof.Rows.LCt.CompSrcT _ _ _ _ _ _ _ _ _ _ _ _ _ _ _)); (first | (k_unfold; (try dsimp only)) | walk1 | (dsimp only; walk1) | (leave1; walk_say "STEP leave1"; (try dsimp only)) | fail "no step"))))
theorem EntsIn.drop {led : Led} {c : Addr} {o : Obj} {v : Option Value} {vs : Array Value} {ents : List Ent} (h : EntsIn ((c, o) :: led) vs ents) (hd : o.data = .cell v) : EntsIn led vs ents :=
  ⟨h.size, fun i e he => by
    obtain ⟨a, xs, k, h1, h2, h3⟩ := h.at' i e he
    rcases List.mem_cons.mp h2 with e | h2
    · injection e with _ e
      rw [← e] at hd
      cases hd
    · exact ⟨a, xs, k, h1, h2, h3⟩⟩
section
variable {w : World} {A₀ : Around} {base h₀ : Heap} {L a : Addr} {ccd : Value} {m mg mb : Str → Option Value} {mean : ExcName → Option Value} {s : Shared} {rest led : Led} {Q : Flow → Shared → Prop} {E : Value → Shared → Prop} {R : List Stmt}
set_option maxHeartbeats 8000000 in
theorem st10 {el : Addr} {vs : Array Value} {n : Nat} {ents : List Ent} {oE : Obj} (B : Below A₀ base [] h₀) (F : Fr h₀ L s.heap m) (X : (Mine.hd.heap_39 w.params).In h₀) (N : News h₀ L s.heap ((L + 1, oE) :: led)) (T : Top VW (looseW VW []) mean mg mb h₀)
    (hE : oE.data = .cell (some (.ref el))) (hl : (el, listOf vs n) ∈ led) (hr : ∀ p ∈ led, p.1 ≠ L + 1) (he : EntsIn led vs ents) (h1 : ents ≠ []) (h5 : ents.length ≤ 5) (hd : ents.Pairwise fun a b => a.v ≠ b.v)
    (k : ∀ D oE' c vs' ents' h' tk', oE'.data = .cell (some (.ref D)) → ents'.length = ents.length → (∀ e ∈ ents', e ∈ ents) → ents'.Pairwise (fun a b => ltL a.fd b.fd = true) → EntsIn led vs' ents' → @LT.lt Nat _ (L + 1) D → (∀ p ∈ led, @LT.lt Nat _ p.1 D) → Fr h₀ L h' m → News h₀ L h' ((D, listOf vs' c) :: (L + 1, oE') :: led) → wpAny (model Challenge.rw_no0415_01.row.prog w) (callerA.deeper (envOfC (Str.ofString "law") lawSc L a ccd)) (execs (R) (envOfC (Str.ofString "law") lawSc L a ccd)) Q E { s with heap := h', toks := tk' }) :
    wpAny (model Challenge.rw_no0415_01.row.prog w) (callerA.deeper (envOfC (Str.ofString "law") lawSc L a ccd)) (execs (lawAt 10 :: R) (envOfC (Str.ofString "law") lawSc L a ccd)) Q E s := by
  walk_at "mine open1"
  (have X1 := X; revert X1; k_fill; intro X1)
  have h10 : 1 ≤ ents.length := by cases ents with | nil => exact absurd rfl h1 | cons a l => simp
  walk_at "mine stepsS"
  rename Fr _ _ _ _ => FF
  rename News _ _ _ _ => NN
  refine Mine.sorted_ents FF NN (.tail _ hl) (he.mono fun p hp => .tail _ hp) h10 h5 hd fun D c h' vs' ents' g1 g2 g3 g4 g5 F' N' => ?_
  have g5a : @LT.lt Nat _ (L + 1) D := g5 _ (.head _)
  have g5b : ∀ p ∈ led, @LT.lt Nat _ p.1 D := fun p hp => g5 _ (.tail _ hp)
  walk_at "mine stepsS"
  rename Fr _ _ _ _ => FF
  rename News _ _ _ _ => NN
  rename _ = Data.cell (some (Value.ref _)) => d1
  exact k _ _ _ _ _ _ _ d1 g1 g2 g3 (g4.drop hE) g5a g5b FF NN
set_option maxHeartbeats 8000000 in
theorem st11  (B : Below A₀ base [] h₀) (F : Fr h₀ L s.heap m) (X : (Mine.hd.heap_39 w.params).In h₀) (N : News h₀ L s.heap (rest)) (T : Top VW (looseW VW []) mean mg mb h₀)
    (k : ∀ od led h' tk', OrdIn led od → (∀ p ∈ rest, p ∈ led) → (∀ p ∈ led, p ∈ rest ∨ ∀ q ∈ rest, @LT.lt Nat _ q.1 p.1) → Fr h₀ L h' (fun y => if y = "order" then some (.ref od) else m y) → News h₀ L h' led → wpAny (model Challenge.rw_no0415_01.row.prog w) (callerA.deeper (envOfC (Str.ofString "law") lawSc L a ccd)) (execs (R) (envOfC (Str.ofString "law") lawSc L a ccd)) Q E { s with heap := h', toks := tk' }) :
    wpAny (model Challenge.rw_no0415_01.row.prog w) (callerA.deeper (envOfC (Str.ofString "law") lawSc L a ccd)) (execs (lawAt 11 :: R) (envOfC (Str.ofString "law") lawSc L a ccd)) Q E s := by
  walk_at "mine open1"
  (have X1 := X; revert X1; k_fill; intro X1)
  walk_at "mine stepsR"
  rename Fr _ _ _ _ => FF
  rename News _ _ _ _ => NN
  rename ∀ p ∈ rest, p.1 < _ => la
  rename _ < _ ∧ _ < _ ∧ AllLt _ rest => lb
  rename Nat.lt _ _ => lc
  refine k _ _ _ _ ⟨_, _, _, _, _, _, .tail _ (.tail _ (.head _)), .tail _ (.tail _ (.tail _ (.head _))), .head _, .tail _ (.head _)⟩ (fun p hp => .tail _ (.tail _ (.tail _ (.tail _ hp)))) (fun p hp => ?_) FF NN
  have la' := fun (q : Addr × Obj) (hq : q ∈ rest) => la q hq
  have l2' := allLt_mem lb.2.2
  rcases List.mem_cons.mp hp with rfl | hp
  · exact .inr fun q hq => Nat.lt_trans (l2' q hq) lc
  · rcases List.mem_cons.mp hp with rfl | hp
    · exact .inr fun q hq => l2' q hq
    · rcases List.mem_cons.mp hp with rfl | hp
      · exact .inr fun q hq => Nat.lt_trans (la q hq) (by assumption)
      · rcases List.mem_cons.mp hp with rfl | hp
        · exact .inr fun q hq => la q hq
        · exact .inl hp
end
open PySem PySem.W PyProof.Rows PySem.Spec
set_option maxRecDepth 100000
set_option hygiene false in
local macro_rules | `(tactic| walk_at "mine stepsK") => `(tactic| repeat' (first | ((fail_if_success (with_reducible show wpAny _ _ (execs R _) _ _ _)); (fail_if_success (with_reducible show wpAny _ _ (call (Value.ref 664) _) _ _ _)); (fail_if_success (with_reducible show wpAny _ _ (eval (PySem.Expr.ListComp _ _ _ _) _) _ _ _)); (fail_if_success (with_reducible show PyProof.Rows.LCg.CompSrc _ _ _ _ _ _ _ _ _ _ _ _ _ _)); (fail_if_success (with_reducible show PyProof.Rows.LCg.CompEnd _ _ _ _ _ _ _ _ _ _ _ _ _ _)); (fail_if_success (with_reducible show PyProof.Rows.LCt.CompSrcT _ _ _ _ _ _ _ _ _ _ _ _ _ _ _)); (first | (k_unfold; (try dsimp only)) | walk1 | (dsimp only; walk1) | (leave1; walk_say "STEP leave1"; (try dsimp only)) | fail "no step"))))
/-- a ledger that grew by new objects alone -/
structure Grow (a b : Led) : Prop where
  sub : ∀ p ∈ a, p ∈ b
  new : ∀ p ∈ b, p ∈ a ∨ ∀ q ∈ a, q.1 ≠ p.1
theorem Grow.refl (a : Led) : Grow a a := ⟨fun _ h => h, fun _ h => .inl h⟩
theorem Grow.trans {a b c : Led} (h : Grow a b) (g : Grow b c) : Grow a c := ⟨fun p hp => g.sub p (h.sub p hp), fun p hp => by
  rcases g.new p hp with hp | hp
  · exact h.new p hp
  · exact .inr fun q hq => hp q (h.sub q hq)⟩
theorem Grow.cons {a b : Led} {p : Addr × Obj} (h : Grow a b) (hn : ∀ q ∈ a, q.1 ≠ p.1) : Grow a (p :: b) := ⟨fun q hq => .tail _ (h.sub q hq), fun q hq => by
  rcases List.mem_cons.mp hq with rfl | hq
  · exact .inr hn
  · exact h.new q hq⟩
theorem Grow.apart {a b : Led} {c : Addr} (h : Grow a b) (hc : ∀ p ∈ a, p.1 ≠ c) {o : Obj} (hm : ∀ p ∈ b, p ∈ a ∨ ∀ q ∈ (c, o) :: a, q.1 ≠ p.1) : ∀ p ∈ b, p.1 ≠ c := fun p hp => by
  rcases hm p hp with hp | hp
  · exact hc p hp
  · exact fun e => hp _ (.head _) e.symm
/-- the tuple that the law makes of an entry -/
def Ent.rb (e : Ent) : RowB := (ikb ⟨e.u, e.q, e.k⟩, e.v)
section
variable {w : World} {dp un : Nat} {gd : Option (List Code)} {cn : Str} {cs : Scope} {a : Addr} {ccd : Value} {cl : List (Str × Addr)} {outer : List Env} {A₀ : Around} {base h₀ : Heap} {L : Addr} {m mg mb : Str → Option Value} {mean : ExcName → Option Value} {s : Shared} {rest : Led}
  {Q E : Value → Shared → Prop} {u : Array UInt8} {q kd : Nat} {t0 t1 t2 : Tok} {zq zk : Int}
theorem lik2_r (B : Below A₀ base outer h₀) (F : Fr h₀ L s.heap m) (X : (Mine.hd.heap_39 w.params).In h₀) (N : News h₀ L s.heap rest) (T : Top VW (looseW VW []) mean mg mb h₀) (hk : cs.kind = .function) (hd : dp + 1 < recursionLimit) (hu : un + 8 < cLine)
    (e1 : zq = (q : Int)) (e2 : zk = (kd : Int)) (hq : seqOk q) (hkd : kd ≤ 1) (hu2 : u.size ≤ 1000) (k : ∀ t' h' tk', Fr h₀ L h' m → News h₀ L h' rest → Q (.bytes (ikb ⟨u, q, kd⟩) t') { s with heap := h', toks := tk' }) :
    wpAny (model Challenge.rw_no0415_01.row.prog w) (ktrTop dp un gd cn cs L a ccd cl outer) (call (.ref 664) [.bytes u t0, .int zq t1, .int zk t2]) Q E s := by
  subst e1
  subst e2
  exact lik_r B F X N T hk hd hu hq hkd hu2 k
end
theorem off1_mem {D : Addr} : ∀ {l : List (Addr × Obj)}, PyProof.Rows.LCg.Off1 D l → ∀ p ∈ l, @Ne Nat p.1 D
  | [], _, _, h => nomatch h
  | _ :: _, x, p, h => by
    rcases List.mem_cons.mp h with rfl | h
    · exact x.1
    · exact off1_mem x.2 p h
theorem news_head {h₀ h : Heap} {L : Addr} {x : Addr × Obj} {l : Led} (N : News h₀ L h (x :: l)) : ∃ y, x = y ∧ News h₀ L h (y :: l) := ⟨x, rfl, N⟩
theorem CompEnd.intro1 {h₀ : Heap} {L I C D : Addr} {m : Str → Option Value} {s₁ : Shared} {oI oC oD : Obj} {S : List (Addr × Obj) → Prop} {rest : Value → List (Addr × Obj) → Prop} {y : Value} {h' : Heap} {tk : Nat} {x : Addr × Obj} {nw : Led}
    (F : Fr h₀ L h' m) (N : News h₀ L h' (x :: (I, oI) :: (C, oC) :: (D, oD) :: nw)) (h1 : @LT.lt Nat _ I x.1) (h2 : @LT.lt Nat _ C x.1) (h3 : @LT.lt Nat _ D x.1) (off : PyProof.Rows.LCg.Off3 I C D nw) (hS : S (x :: nw)) (r : rest y (x :: nw)) :
    PyProof.Rows.LCg.CompEnd h₀ L m s₁ I oI C oC D oD S rest y { s₁ with heap := h', toks := tk } :=
  PyProof.Rows.LCg.CompEnd.intro F N (x :: nw) (fun p hp => by
    rcases List.mem_cons.mp hp with rfl | hp
    · exact .tail _ (.head _)
    · rcases List.mem_cons.mp hp with rfl | hp
      · exact .tail _ (.tail _ (.head _))
      · rcases List.mem_cons.mp hp with rfl | hp
        · exact .tail _ (.tail _ (.tail _ (.head _)))
        · rcases List.mem_cons.mp hp with rfl | hp
          · exact .head _
          · exact .tail _ (.tail _ (.tail _ (.tail _ hp)))) ⟨⟨(Nat.ne_of_lt h1).symm, (Nat.ne_of_lt h2).symm, (Nat.ne_of_lt h3).symm⟩, off⟩ hS r
theorem users_size {u : Array UInt8} (h : u ∈ usersL) : u.size ≤ 8 := by
  have : ∀ u ∈ usersL, u.size ≤ 8 := by decide
  exact this u h
section
variable {w : World} {A₀ : Around} {base h₀ : Heap} {L a : Addr} {ccd : Value} {m mg mb : Str → Option Value} {mean : ExcName → Option Value} {s : Shared} {rest led : Led} {Q : Flow → Shared → Prop} {E : Value → Shared → Prop} {R : List Stmt}
set_option maxHeartbeats 8000000 in
theorem st12 {el : Addr} {vs : Array Value} {n cnt : Nat} {ents : List Ent} {oE oF : Obj} {vF : Option Value} (B : Below A₀ base [] h₀) (F : Fr h₀ L s.heap m) (X : (Mine.hd.heap_39 w.params).In h₀) (N : News h₀ L s.heap ((L + 1 + 1, oF) :: led)) (T : Top VW (looseW VW []) mean mg mb h₀)
    (hE : oE.data = .cell (some (.ref el))) (hcE : (L + 1, oE) ∈ led) (hF : oF.data = .cell vF) (hl : (el, listOf vs n) ∈ led) (hr : ∀ p ∈ led, p.1 ≠ L + 1 + 1) (he : EntsIn led vs ents) (hok : ∀ e ∈ ents, e.Ok cnt) (h5 : ents.length ≤ 5)
    (k : ∀ fl oF' led' fvs n' h' tk', oF'.data = .cell (some (.ref fl)) → Grow led led' → (∀ p ∈ led', p.1 ≠ L + 1 + 1) → RowsL led' fl (ents.map Ent.rb) fvs n' → Fr h₀ L h' m → News h₀ L h' ((L + 1 + 1, oF') :: led') → wpAny (model Challenge.rw_no0415_01.row.prog w) (callerA.deeper (envOfC (Str.ofString "law") lawSc L a ccd)) (execs (R) (envOfC (Str.ofString "law") lawSc L a ccd)) Q E { s with heap := h', toks := tk' }) :
    wpAny (model Challenge.rw_no0415_01.row.prog w) (callerA.deeper (envOfC (Str.ofString "law") lawSc L a ccd)) (execs (lawAt 12 :: R) (envOfC (Str.ofString "law") lawSc L a ccd)) Q E s := by
  walk_at "mine open1"
  (have X1 := X; revert X1; k_fill; intro X1)
  walk_at "mine stepsK"
  rename Fr _ _ _ _ => FF
  rename News _ _ _ _ => NN
  refine' PyProof.Rows.LCg.ListComp_U (F₀ := FF) (by with_unfolding_all rfl) (by decide) (by rfl) (by decide) (by rfl) ?_
  walk_at "mine stepsK"
  refine PyProof.Rows.LCg.CompSrc.ledger (its := vs) (k := n) rfl FF NN (.tail _ hl) (by have := he.size; rw [sizeLine_eq]; omega) fun g => ?_
  refine compRest_inv (fun j ys nw => (L + 1 + 1, oF) ∈ nw ∧ ∃ nw', (∀ p ∈ nw', p ∈ nw) ∧ Grow led nw' ∧ (∀ p ∈ nw', p.1 ≠ L + 1 + 1) ∧ ys.length = j ∧ ∀ (i : Nat) e, i < j → ents[i]? = some e → ∃ a t1 t2 n', ys[i]? = some (.ref a) ∧ (a, tupObj [.bytes (ikb ⟨e.u, e.q, e.k⟩) t1, .bytes e.v t2] n') ∈ nw') vs.size ?step ?fin _ 0 [] _ (Nat.zero_add _) ⟨.head _, led, fun p hp => .tail _ hp, Grow.refl _, hr, rfl, fun i e hi => absurd hi (Nat.not_lt_zero _)⟩
  case step =>
    rintro j ys nw v I oI C oC D m₂ h tk E' hj ⟨g0, nw', g1, g2, g3, g4, g5⟩ hP hNs hx FF NN hO ⟨n1, n2, n3⟩
    obtain ⟨e9, he9⟩ : ∃ e, ents[j]? = some e := ⟨_, List.getElem?_eq_getElem (by have := he.size; omega)⟩
    obtain ⟨aa, xs, kx, hv, hxm, hxf⟩ := he.at' j e9 he9
    rw [hv] at hP
    cases hP
    obtain ⟨y1, y2, y3, y4, y5, rfl⟩ := FAll_ent hxf
    have hxm2 := g1 _ (g2.sub _ hxm)
    have ok9 := hok e9 (List.mem_of_getElem? he9)
    walk_at "mine stepsK"
    rename Fr _ _ _ _ => F2
    rename News _ _ _ _ => N2
    refine Mine.lik2_r B F2 X N2 T rfl (by ktr_room) (by ktr_units) (q := e9.q) (kd := e9.k) (by omega) (by omega) ok9.q ok9.k (by have := users_size ok9.u; omega) fun t8 h8 tk8 F' N' => ?_
    clear F2 N2
    walk_at "mine stepsK"
    rename Fr _ _ _ _ => F2
    rename News _ _ _ _ => N2
    rename _ < _ ∧ _ < _ ∧ _ < _ ∧ AllLt _ nw => l1
    obtain ⟨la, lb, lc, ld⟩ := l1
    have ld := allLt_mem ld
    obtain ⟨x9, hx9, N9⟩ := news_head N2
    have hx9a := congrArg Prod.fst hx9
    simp only at hx9a
    rw [hx9a] at la lb lc ld ⊢
    refine CompEnd.intro1 F2 N9 la lb lc hO (.inr ⟨_, .tail _ (g1 _ (g2.sub _ hl)), rfl, _, rfl⟩) ⟨.tail _ g0, x9 :: nw', ?_, g2.cons ?_, ?_, by simp [g4], ?_⟩
    · intro p hp
      rcases List.mem_cons.mp hp with rfl | hp
      · exact .head _
      · exact .tail _ (g1 _ hp)
    · exact fun q hq => Nat.ne_of_lt (ld _ (g1 _ (g2.sub _ hq)))
    · intro p hp
      rcases List.mem_cons.mp hp with rfl | hp
      · exact (Nat.ne_of_lt (ld _ g0)).symm
      · exact g3 p hp
    · intro i e hi hie
      by_cases hij : i < j
      · obtain ⟨a', s1, s2, n', r1, r2⟩ := g5 i e hij hie
        exact ⟨a', s1, s2, n', by rw [List.getElem?_append_left (by omega)]; exact r1, .tail _ r2⟩
      · have : i = j := by omega
        subst this
        rw [he9] at hie
        cases hie
        exact ⟨_, _, _, _, by rw [List.getElem?_append_right (by omega), g4, Nat.sub_self]; rfl, by rw [← hx9]; exact .head _⟩
  case fin =>
    clear FF NN
    rintro ys nw ⟨g0, nw', g1, g2, g3, g4, g5⟩
    unfold PyProof.Rows.LCg.FinE
    intro D h tk FF NN hO
    have N3 := news_of NN (b := (D, PyProof.Rows.LCg.lst ys) :: (L + 1 + 1, oF) :: nw') fun p hp => by
      rcases List.mem_cons.mp hp with rfl | hp
      · exact .head _
      · rcases List.mem_cons.mp hp with rfl | hp
        · exact .tail _ g0
        · exact .tail _ (g1 _ hp)
    clear NN
    have hDc : @Ne Nat (L + 1 + 1) D := by
      exact (off1_mem hO _ g0)
    have hDl : ∀ q ∈ nw', q.1 ≠ D := fun q hq => off1_mem hO _ (g1 _ hq)
    walk_at "mine stepsK"
    rename Fr _ _ _ _ => F3
    rename News _ _ _ _ => N4
    rename _ = Data.cell (some (Value.ref _)) => d1
    have hzv := he.size
    refine k D _ ((D, PyProof.Rows.LCg.lst ys) :: nw') ys.toArray _ _ _ d1 (g2.cons fun q hq => hDl q (g2.sub q hq)) (fun p hp => ?_) ⟨.head _, by simp [g4, hzv], by simp; omega, fun i k9 v9 hi => ?_⟩ F3 (news_of N4 fun p hp => ?_)
    · rcases List.mem_cons.mp hp with rfl | hp
      · exact fun e => hDc e.symm
      · exact g3 p hp
    · rw [List.getElem?_map] at hi
      obtain ⟨e9, he9, hr9⟩ := Option.map_eq_some_iff.mp hi
      obtain ⟨a', s1, s2, n', r1, r2⟩ := g5 i e9 (by have := (List.getElem?_eq_some_iff.mp he9).1; omega) he9
      unfold Ent.rb at hr9
      injection hr9 with h1 h2
      subst h1
      subst h2
      exact ⟨a', s1, s2, n', by simpa using r1, .tail _ r2⟩
    · rcases List.mem_cons.mp hp with rfl | hp
      · exact .tail _ (.head _)
      · rcases List.mem_cons.mp hp with rfl | hp
        · exact .head _
        · exact .tail _ (.tail _ hp)
end
open PySem PySem.W PyProof.Rows PySem.Spec
set_option maxRecDepth 100000
set_option hygiene false in
local macro_rules | `(tactic| walk_at "mine stepsT") => `(tactic| repeat' (first | ((fail_if_success (with_reducible show wpAny _ _ (execs R _) _ _ _)); (fail_if_success (with_reducible show wpAny _ _ (call (Value.ref 380) _) _ _ _)); (fail_if_success (with_reducible show wpAny _ _ (eval (PySem.Expr.ListComp _ _ _ _) _) _ _ _)); (fail_if_success (with_reducible show PyProof.Rows.LCg.CompSrc _ _ _ _ _ _ _ _ _ _ _ _ _ _)); (fail_if_success (with_reducible show PyProof.Rows.LCg.CompEnd _ _ _ _ _ _ _ _ _ _ _ _ _ _)); (fail_if_success (with_reducible show PyProof.Rows.LCt.CompSrcT _ _ _ _ _ _ _ _ _ _ _ _ _ _ _)); (fail_if_success (with_reducible show PyProof.Rows.LCt.CompSrcT _ _ _ _ _ _ _ _ _ _ _ _ _ _ _)); (fail_if_success (with_reducible show wpAny _ _ (exec (PySem.Stmt.Assign _ (PySem.Expr.ListComp _ _ _ _) _) _) _ _ _)); (fail_if_success (with_reducible show (if _ then _ else _))); (first | (k_unfold; (try dsimp only)) | walk1 | (dsimp only; walk1) | (leave1; walk_say "STEP leave1"; (try dsimp only)) | fail "no step"))))
theorem rowsOf_same {Z : MZ} {i : Nat} {z : Row × Nat} (h : Z[i]? = some z) : rowsOf (Z.take (i + 1)) z.2 = rowsOf (Z.take i) z.2 ++ [z.1] := by
  rw [List.take_add_one, h, rowsOf_append]
  simp [rowsOf]
theorem rowsOf_other {Z : MZ} {i j : Nat} {z : Row × Nat} (h : Z[i]? = some z) (hj : z.2 ≠ j) : rowsOf (Z.take (i + 1)) j = rowsOf (Z.take i) j := by
  rw [List.take_add_one, h, rowsOf_append]
  simp [rowsOf, hj]
section
variable {w : World} {A₀ : Around} {base h₀ : Heap} {L a : Addr} {ccd : Value} {m mg mb : Str → Option Value} {mean : ExcName → Option Value} {s : Shared} {rest led : Led} {Q : Flow → Shared → Prop} {E : Value → Shared → Prop} {R : List Stmt}
set_option maxHeartbeats 8000000 in
theorem st14a {el fl : Addr} {vs fvs : Array Value} {n n' j : Nat} {tj : Tok} {ents : List Ent} {oE oF oC : Obj} {led0 : Led} (B : Below A₀ base [] h₀) (F : Fr h₀ L s.heap m) (X : (Mine.hd.heap_39 w.params).In h₀) (N : News h₀ L s.heap (led)) (T : Top VW (looseW VW []) mean mg mb h₀)
    (hE : oE.data = .cell (some (.ref el))) (hcE : (L + 1, oE) ∈ led) (hF : oF.data = .cell (some (.ref fl))) (hcF : (L + 1 + 1, oF) ∈ led) (hC : oC.data = .cell (some (.int (j : Int) tj))) (hcC : (L + 1 + 1 + 1, oC) ∈ led) (hl : (el, listOf vs n) ∈ led) (he : EntsIn led vs ents) (hs0 : ∀ p ∈ led0, p ∈ led) (hf : RowsL led0 fl (ents.map Ent.rb) fvs n')
    (k : ∀ rl mvs n'' h' tk', (∀ q ∈ led, @Ne Nat q.1 rl) → mvs.size = (rowsOf (ents.map Ent.z) j).length → (∀ (i : Nat) (k : IK) (v : Array UInt8), (rowsOf (ents.map Ent.z) j)[i]? = some (k, v) → ∃ a t1 t2 n, mvs[i]? = some (.ref a) ∧ (a, tupObj [.bytes (ikb k) t1, .bytes v t2] n) ∈ led0) → Fr h₀ L h' (fun y => if y = "mine" then some (.ref rl) else m y) → News h₀ L h' ((rl, listOf mvs n'') :: led) → wpAny (model Challenge.rw_no0415_01.row.prog w) (callerA.deeper (envOfC (Str.ofString "law") lawSc L a ccd)) (execs (R) (envOfC (Str.ofString "law") lawSc L a ccd)) Q E { s with heap := h', toks := tk' }) :
    wpAny (model Challenge.rw_no0415_01.row.prog w) (callerA.deeper (envOfC (Str.ofString "law") lawSc L a ccd)) (execs (lawBody 14 0 :: R) (envOfC (Str.ofString "law") lawSc L a ccd)) Q E s := by
  walk_at "mine openB1"
  (have X1 := X; revert X1; k_fill; intro X1)
  walk_at "mine stepsT"
  rename Fr _ _ _ _ => FF
  rename News _ _ _ _ => NN
  have hfl := hs0 _ hf.lst
  have hfz := hf.size
  rw [List.length_map] at hfz
  have hsm := hf.small
  rw [List.length_map] at hsm
  have hez := he.size
  refine' PyProof.Rows.LCt.Assign_ListComp_T (F₀ := FF) rfl (by with_unfolding_all rfl) (by with_unfolding_all rfl) (by decide) (by rfl) (by decide) (by rfl) (by rfl) (by rfl) ?_
  walk_at "mine stepsT"
  rename Fr _ _ _ _ => FF
  rename News _ _ _ _ => NN
  rename IsRange _ _ _ _ _ _ _ _ => RR
  refine PyProof.Rows.LCt.CompSrcT.range (a := 0) (n := ents.length) rfl FF NN RR (small_up (by omega)) (size_up _) (by rw [sizeLine_eq]; omega) fun g => ?_
  refine compRestT_inv (fun i ys nw => (∀ p ∈ led, p ∈ nw) ∧ ys.length = cnt (ents.map Ent.z) j i ∧ ∀ (p : Nat) (k : IK) (v : Array UInt8), (rowsOf ((ents.map Ent.z).take i) j)[p]? = some (k, v) → ∃ a t1 t2 n, ys[p]? = some (.ref a) ∧ (a, tupObj [.bytes (ikb k) t1, .bytes v t2] n) ∈ led0) ents.length ?step ?fin _ 0 [] _ (Nat.zero_add _) ⟨fun p hp => hp, (cnt_zero _ _).symm, fun p k v hp => by simp [rowsOf] at hp⟩
  case step =>
    rintro i ys nw v I oI C oK D m₂ h tk E' hi ⟨g1, g2, g3⟩ ⟨t, rfl⟩ hNs hx FF NN hO ⟨n1, n2, n3⟩
    obtain ⟨e9, he9⟩ : ∃ e, ents[i]? = some e := ⟨_, List.getElem?_eq_getElem hi⟩
    obtain ⟨aa, xs, kx, hv, hxm, hxf⟩ := he.at' i e9 he9
    obtain ⟨fa, s1, s2, fn, hfv, hfm⟩ := hf.row i (ikb ⟨e9.u, e9.q, e9.k⟩) e9.v (by rw [List.getElem?_map, he9]; rfl)
    obtain ⟨y1, y2, y3, y4, y5, rfl⟩ := FAll_ent hxf
    have hv' : vs[((0 : Int) + (i : Int)).toNat]? = some (.ref aa) := by rw [show ((0 : Int) + (i : Int)).toNat = i by omega]; exact hv
    have hfv' : fvs[((0 : Int) + (i : Int)).toNat]? = some (.ref fa) := by rw [show ((0 : Int) + (i : Int)).toNat = i by omega]; exact hfv
    have hxm2 := g1 _ hxm
    have hfm2 := g1 _ (hs0 _ hfm)
    have hcE2 := g1 _ hcE
    have hcF2 := g1 _ hcF
    have hcC2 := g1 _ hcC
    have hl2 := g1 _ hl
    have hfl2 := g1 _ hfl
    walk_at "mine stepsT"
    have hz9 : (ents.map Ent.z)[i]? = some e9.z := by rw [List.getElem?_map, he9]; rfl
    rename Fr _ _ _ _ => F2
    rename News _ _ _ _ => N2
    by_cases hc : e9.c = j
    · rw [if_pos (by simp [hc])]
      walk_at "mine stepsT"
      rename Fr _ _ _ _ => F3
      rename News _ _ _ _ => N3
      have hc' : e9.z.2 = j := hc
      have r1 := rowsOf_same hz9
      have r2 := cnt_succ_same hz9
      rw [hc'] at r1 r2
      refine PyProof.Rows.LCg.CompEnd.intro F3 N3 nw (fun p hp => hp) hO trivial ⟨g1, by rw [r2, List.length_append, g2]; rfl, fun p k v hp => ?_⟩
      rw [r1] at hp
      by_cases hlt : p < (rowsOf ((ents.map Ent.z).take i) j).length
      · rw [List.getElem?_append_left hlt] at hp
        obtain ⟨a', q1, q2, qn, h1, h2⟩ := g3 p k v hp
        exact ⟨a', q1, q2, qn, by rw [List.getElem?_append_left (by rw [g2]; exact hlt)]; exact h1, h2⟩
      · have hp0 : p = (rowsOf ((ents.map Ent.z).take i) j).length := by
          have := (List.getElem?_eq_some_iff.mp hp).1
          rw [List.length_append] at this
          simp only [List.length_cons, List.length_nil] at this
          omega
        rw [List.getElem?_append_right (by omega), hp0, Nat.sub_self] at hp
        have hp' : e9.row = (k, v) := Option.some.inj hp
        unfold Ent.row at hp'
        injection hp' with h1 h2
        subst h1
        subst h2
        refine ⟨fa, s1, s2, fn, ?_, hfm⟩
        rw [hp0, List.getElem?_append_right (by rw [g2]; exact Nat.le_refl _), g2]
        unfold cnt
        rw [Nat.sub_self]
        rfl
    · rw [if_neg (by simp; omega)]
      have r1 := rowsOf_other (j := j) hz9 hc
      have r2 := cnt_succ_other (k := j) hz9 (fun e => hc e.symm)
      exact PyProof.Rows.LCg.CompEnd.intro F2 N2 nw (fun p hp => hp) hO trivial ⟨g1, by rw [r2]; exact g2, by rw [r1]; exact g3⟩
  case fin =>
    clear FF NN
    rintro ys nw ⟨g1, g2, g3⟩
    unfold PyProof.Rows.LCg.FinA
    intro D h tk FF NN hO
    have hall : (ents.map Ent.z).take ents.length = ents.map Ent.z := List.take_of_length_le (by simp)
    rw [hall] at g3
    have N3 := news_of NN (b := (D, PyProof.Rows.LCg.lst ys) :: led) fun p hp => by
      rcases List.mem_cons.mp hp with rfl | hp
      · exact .head _
      · exact .tail _ (g1 _ hp)
    clear NN
    walk_at "mine stepsT"
    exact k D ys.toArray _ _ _ (fun q hq => off1_mem hO _ (g1 _ hq)) (by rw [List.size_toArray, g2]; unfold cnt; rw [hall]) (fun i k v hi => by
      obtain ⟨a', q1, q2, qn, h1, h2⟩ := g3 i k v hi
      exact ⟨a', q1, q2, qn, by simpa using h1, h2⟩) FF N3
end
open PySem PySem.W PyProof.Rows PySem.Spec
set_option maxRecDepth 100000
set_option hygiene false in
local macro_rules | `(tactic| walk_at "mine stepsT") => `(tactic| repeat' (first | ((fail_if_success (with_reducible show wpAny _ _ (execs R _) _ _ _)); (fail_if_success (with_reducible show wpAny _ _ (call (Value.ref 380) _) _ _ _)); (fail_if_success (with_reducible show wpAny _ _ (exec (PySem.Stmt.For _ _ _ _ _) _) _ _ _)); (fail_if_success (with_reducible show wpAny _ _ (pyIter _) _ _ _)); (fail_if_success (with_reducible show wpAny _ _ (eval (PySem.Expr.ListComp _ _ _ _) _) _ _ _)); (fail_if_success (with_reducible show PyProof.Rows.LCg.CompSrc _ _ _ _ _ _ _ _ _ _ _ _ _ _)); (fail_if_success (with_reducible show PyProof.Rows.LCg.CompEnd _ _ _ _ _ _ _ _ _ _ _ _ _ _)); (fail_if_success (with_reducible show PyProof.Rows.LCt.CompSrcT _ _ _ _ _ _ _ _ _ _ _ _ _ _ _)); (first | (k_unfold; (try dsimp only)) | walk1 | (dsimp only; walk1) | (leave1; walk_say "STEP leave1"; (try dsimp only)) | fail "no step"))))
section
variable {w : World} {A₀ : Around} {base h₀ : Heap} {L a : Addr} {ccd : Value} {m mg mb : Str → Option Value} {mean : ExcName → Option Value} {s : Shared} {rest led : Led} {Q : Flow → Shared → Prop} {E : Value → Shared → Prop} {R : List Stmt}
set_option maxHeartbeats 8000000 in
theorem st13  (B : Below A₀ base [] h₀) (F : Fr h₀ L s.heap m) (X : (Mine.hd.heap_39 w.params).In h₀) (N : News h₀ L s.heap (rest)) (T : Top VW (looseW VW []) mean mg mb h₀)
    (k : ∀ pl h' tk', (∀ p ∈ rest, @LT.lt Nat _ p.1 pl) → Fr h₀ L h' (fun y => if y = "parts" then some (.ref pl) else m y) → News h₀ L h' ((pl, listOf #[] 0) :: rest) → wpAny (model Challenge.rw_no0415_01.row.prog w) (callerA.deeper (envOfC (Str.ofString "law") lawSc L a ccd)) (execs (R) (envOfC (Str.ofString "law") lawSc L a ccd)) Q E { s with heap := h', toks := tk' }) :
    wpAny (model Challenge.rw_no0415_01.row.prog w) (callerA.deeper (envOfC (Str.ofString "law") lawSc L a ccd)) (execs (lawAt 13 :: R) (envOfC (Str.ofString "law") lawSc L a ccd)) Q E s := by
  walk_at "mine open1"
  (have X1 := X; revert X1; k_fill; intro X1)
  walk_at "mine stepsR"
  rename Fr _ _ _ _ => FF
  rename News _ _ _ _ => NN
  rename ∀ p ∈ rest, p.1 < _ => la
  exact k _ _ _ la FF NN
set_option maxHeartbeats 8000000 in
theorem st14b {pl rl od : Addr} {pvs : Array Value} {np : Nat} (B : Below A₀ base [] h₀) (F : Fr h₀ L s.heap m) (X : (Mine.hd.heap_39 w.params).In h₀) (N : News h₀ L s.heap ((pl, listOf pvs np) :: led)) (T : Top VW (looseW VW []) mean mg mb h₀)
    (e1 : m "parts" = some (.ref pl)) (e2 : m "mine" = some (.ref rl)) (e3 : m "order" = some (.ref od)) (hpl : ∀ p ∈ led, p.1 ≠ pl) (hz : pvs.size ≤ 10)
    (k : ∀ x dx q t np' h' tk', x ≠ dx → (∀ p ∈ led, p.1 ≠ x ∧ p.1 ≠ dx) → @Ne Nat x pl → @Ne Nat dx pl → Fr h₀ L h' m → News h₀ L h' ((pl, listOf (pvs.push (.ref x)) np') :: (x, instObj 380 dx) :: (dx, LD q rl od (-1) t) :: led) → wpAny (model Challenge.rw_no0415_01.row.prog w) (callerA.deeper (envOfC (Str.ofString "law") lawSc L a ccd)) (execs (R) (envOfC (Str.ofString "law") lawSc L a ccd)) Q E { s with heap := h', toks := tk' }) :
    wpAny (model Challenge.rw_no0415_01.row.prog w) (callerA.deeper (envOfC (Str.ofString "law") lawSc L a ccd)) (execs (lawBody 14 1 :: R) (envOfC (Str.ofString "law") lawSc L a ccd)) Q E s := by
  walk_at "mine openB1"
  (have X1 := X; revert X1; k_fill; intro X1)
  walk_at "mine stepsT"
  rename Fr _ _ _ _ => FF
  rename News _ _ _ _ => NN
  refine Mine.linit_r B FF X NN T rfl (by ktr_room) (by ktr_units) fun x dx q t h' tk' F' N' hne hoff => ?_
  have hx : @Ne Nat x pl := fun e => (hoff _ (.head _)).1 e.symm
  have hdx : @Ne Nat dx pl := fun e => (hoff _ (.head _)).2 e.symm
  clear FF NN
  walk_at "mine stepsT"
  rename Fr _ _ _ _ => F3
  rename News _ _ _ _ => N3
  exact k x dx q t _ _ _ hne (fun p hp => hoff p (.tail _ hp)) hx hdx F3 (news_of N3 fun p hp => by
    rcases List.mem_cons.mp hp with rfl | hp
    · exact .tail _ (.tail _ (.head _))
    · rcases List.mem_cons.mp hp with rfl | hp
      · exact .head _
      · rcases List.mem_cons.mp hp with rfl | hp
        · exact .tail _ (.head _)
        · exact .tail _ (.tail _ (.tail _ hp)))
end
open PySem PySem.W PyProof.Rows PySem.Spec
set_option maxRecDepth 100000
theorem seq_lt {q : Nat} (h : seqOk q) : q < 72057594037927936 := by
  rcases h with rfl | rfl | rfl | rfl | rfl <;> decide
theorem ent_ok {e : Ent} {n : Nat} (h : e.Ok n) : e.row.1.Ok := ⟨seq_lt h.q, by show e.k < 256; have := h.k; omega, by show e.u.size ≤ 1000; have := users_size h.u; omega⟩
theorem rowsOf_ok {ents : List Ent} {n j : Nat} (h : ∀ e ∈ ents, e.Ok n) : ∀ x ∈ rowsOf (ents.map Ent.z) j, x.1.Ok := fun x hx => by
  obtain ⟨e, he, hz⟩ := List.mem_map.mp (mem_rowsOf.mp hx)
  have : e.row = x := congrArg Prod.fst hz
  rw [← this]
  exact ent_ok (h e he)
theorem rowsOf_sorted {Z : MZ} (h : Z.Pairwise Zord) (j : Nat) : (rowsOf Z j).Pairwise fun a b => cmpI a.1 b.1 ≤ 0 := by
  unfold rowsOf
  rw [List.pairwise_map]
  exact (h.sublist List.filter_sublist).imp fun {a b} g => g.le
theorem rowsOf_len (Z : MZ) (j : Nat) : (rowsOf Z j).length ≤ Z.length := by
  unfold rowsOf
  rw [List.length_map]
  exact List.length_filter_le _ _
theorem kfps_snoc (ks : List KS) (k : KS) : kfps (ks ++ [k]) = kfps ks ++ k.fp := by simp [kfps]
theorem RowsL.mono {rest rest' : Led} {rl : Addr} {rows : List RowB} {vs : Array Value} {n : Nat} (h : RowsL rest rl rows vs n) (hs : ∀ p ∈ rest, p ∈ rest') : RowsL rest' rl rows vs n :=
  ⟨hs _ h.lst, h.size, h.small, fun i k v hi => by obtain ⟨a, t1, t2, n', h1, h2⟩ := h.row i k v hi; exact ⟨a, t1, t2, n', h1, hs _ h2⟩⟩
structure P14 (rest : Led) (pl cC : Addr) (Z : MZ) (j : Nat) (pvs : Array Value) (tl : Led) (ks : List KS) : Prop where
  grow : Grow rest tl
  gk : ∀ p ∈ kfps ks, ∀ q ∈ rest, q.1 ≠ p.1
  off : ∀ p ∈ kfps ks ++ tl, p.1 ≠ pl ∧ p.1 ≠ cC
  len : ks.length = j
  size : pvs.size = j
  kid : ∀ (i : Nat) k, ks[i]? = some k → pvs[i]? = some (.ref k.c) ∧ k.kd = false ∧ k.R = rowsOf Z i ∧ k.st = none
  cur : ∀ k ∈ ks, LeafC k.fp tl k.c k.kd k.R k.st
  apart : ks.Pairwise fun a b => Off a.fp b.fp
  offk : Off (kfps ks) tl
theorem P14.start {rest : Led} {pl cC : Addr} {Z : MZ} (h : ∀ p ∈ rest, p.1 ≠ pl ∧ p.1 ≠ cC) : P14 rest pl cC Z 0 #[] rest [] :=
  ⟨Grow.refl _, fun p hp => (nomatch hp), fun p hp => h p hp, rfl, rfl, fun i k hk => by simp at hk, fun k hk => (nomatch hk), .nil, fun p hp => (nomatch hp)⟩
theorem P14.more {w : World} {rest tl : Led} {pl cC : Addr} {Z : MZ} {j : Nat} {pvs : Array Value} {ks : List KS} (h : P14 rest pl cC Z j pvs tl ks) {x dx rl od : Addr} {q : LP} {t : Tok} {mvs : Array Value} {n : Nat}
    (hl : LeafIn ((x, instObj 380 dx) :: (rl, listOf mvs n) :: tl) x dx od rl mvs n (rowsOf Z j)) (hs : (rowsOf Z j).Pairwise fun a b => cmpI a.1 b.1 ≤ 0)
    (h1 : @Ne Nat x dx) (h2 : @Ne Nat rl x) (h3 : @Ne Nat rl dx) (hx : x ≠ pl ∧ x ≠ cC) (hd : dx ≠ pl ∧ dx ≠ cC) (hr : rl ≠ pl ∧ rl ≠ cC)
    (gx : ∀ p ∈ kfps ks ++ tl, p.1 ≠ x ∧ p.1 ≠ dx) (gr : ∀ p ∈ kfps ks ++ tl, p.1 ≠ rl) :
    P14 rest pl cC Z (j + 1) (pvs.push (.ref x)) ((x, instObj 380 dx) :: (rl, listOf mvs n) :: tl) (ks ++ [⟨x, false, rowsOf Z j, [(dx, LD q rl od (-1) t)], none⟩]) := by
  have hrest : ∀ p ∈ rest, p ∈ kfps ks ++ tl := fun p hp => List.mem_append_right _ (h.grow.sub p hp)
  refine ⟨(h.grow.cons (p := (rl, listOf mvs n)) fun p hp => gr p (hrest p hp)).cons (p := (x, instObj 380 dx)) fun p hp => (gx p (hrest p hp)).1, fun p hp => ?_, fun p hp => ?_, by simp [h.len], by simp [h.size], fun i k hk => ?_, fun k hk => ?_, ?_, fun p hp p' hp' => ?_⟩
  · rw [kfps_snoc] at hp
    rcases List.mem_append.mp hp with hp | hp
    · exact h.gk p hp
    · rw [List.mem_singleton.mp hp]
      exact fun p hp => (gx p (hrest p hp)).2
  · rw [kfps_snoc] at hp
    rcases List.mem_append.mp hp with hp | hp
    · rcases List.mem_append.mp hp with hp | hp
      · exact h.off p (List.mem_append_left _ hp)
      · rw [List.mem_singleton.mp hp]
        exact hd
    · rcases List.mem_cons.mp hp with rfl | hp
      · exact hx
      · rcases List.mem_cons.mp hp with rfl | hp
        · exact hr
        · exact h.off p (List.mem_append_right _ hp)
  · by_cases hi : i < ks.length
    · rw [List.getElem?_append_left hi] at hk
      obtain ⟨g1, g2⟩ := h.kid i k hk
      refine ⟨?_, g2⟩
      have hlt : i < pvs.size := by rw [h.size, ← h.len]; exact hi
      rw [Array.getElem?_push_lt hlt, ← g1, Array.getElem?_eq_getElem hlt]
    · rw [List.getElem?_append_right (by omega)] at hk
      have h0 : i - ks.length = 0 := by
        by_cases h0 : i - ks.length = 0
        · exact h0
        · rw [List.getElem?_eq_none (by simp; omega)] at hk; cases hk
      rw [h0] at hk
      cases hk
      have : i = j := by have := h.len; omega
      subst this
      exact ⟨by rw [← h.size]; simp, rfl, rfl, rfl⟩
  · rcases List.mem_append.mp hk with hk | hk
    · exact (leaf_spec w).mono (h.cur k hk) fun p hp => .tail _ (.tail _ hp)
    · rw [List.mem_singleton.mp hk]
      refine ⟨rfl, dx, od, rl, mvs, n, q, -1, t, rfl, hl, hs, ?_⟩
      unfold placeI
      rw [if_neg (by omega)]
  · rw [List.pairwise_append]
    refine ⟨h.apart, List.pairwise_singleton _ _, fun a ha b hb => ?_⟩
    rw [List.mem_singleton.mp hb]
    intro p hp p' hp'
    rw [List.mem_singleton.mp hp']
    exact fun e => (gx p (List.mem_append_left _ (mem_kfps ha p hp))).2 e.symm
  · rw [kfps_snoc] at hp
    rcases List.mem_append.mp hp with hp | hp
    · rcases List.mem_cons.mp hp' with rfl | hp'
      · exact fun e => (gx p (List.mem_append_left _ hp)).1 e.symm
      · rcases List.mem_cons.mp hp' with rfl | hp'
        · exact fun e => gr p (List.mem_append_left _ hp) e.symm
        · exact h.offk p hp p' hp'
    · rw [List.mem_singleton.mp hp]
      rcases List.mem_cons.mp hp' with rfl | hp'
      · exact h1
      · rcases List.mem_cons.mp hp' with rfl | hp'
        · exact h3
        · exact (gx p' (List.mem_append_right _ hp')).2
section
variable {w : World} {A₀ : Around} {base h₀ : Heap} {L a : Addr} {ccd : Value} {m mg mb : Str → Option Value} {mean : ExcName → Option Value} {s : Shared} {rest led : Led} {Q : Flow → Shared → Prop} {E : Value → Shared → Prop} {R : List Stmt}
set_option maxHeartbeats 8000000 in
theorem st14 {el fl pl od : Addr} {vs fvs : Array Value} {n n' n0 cnt : Nat} {tc : Tok} {ents : List Ent} {oE oF oC : Obj} {vC : Option Value} (B : Below A₀ base [] h₀) (F : Fr h₀ L s.heap m) (X : (Mine.hd.heap_39 w.params).In h₀) (N : News h₀ L s.heap ((L + 1 + 1 + 1, oC) :: (pl, listOf #[] n0) :: rest)) (T : Top VW (looseW VW []) mean mg mb h₀)
    (hPE : PassesOwn (model Challenge.rw_no0415_01.row.prog w) (callerA.deeper (envOfC (Str.ofString "law") lawSc L a ccd)) (envOfC (Str.ofString "law") lawSc L a ccd) E) (e1 : m "parts" = some (.ref pl)) (e2 : m "count" = some (.int (cnt : Int) tc)) (e3 : m "order" = some (.ref od)) (hc2 : cnt ≤ 3) (hE : oE.data = .cell (some (.ref el))) (hcE : (L + 1, oE) ∈ rest) (hF : oF.data = .cell (some (.ref fl))) (hcF : (L + 1 + 1, oF) ∈ rest) (hC : oC.data = .cell vC) (hr : ∀ p ∈ rest, p.1 ≠ pl ∧ p.1 ≠ L + 1 + 1 + 1) (hpc : @Ne Nat pl (L + 1 + 1 + 1)) (hl : (el, listOf vs n) ∈ rest) (he : EntsIn rest vs ents) (hf : RowsL rest fl (ents.map Ent.rb) fvs n') (hO : OrdIn rest od) (hok : ∀ e ∈ ents, e.Ok cnt) (hsz : ents.length ≤ 5) (hpw : (ents.map Ent.z).Pairwise Zord)
    (k : ∀ pvs np oC' vC' tl ks m' h' tk', P14 rest pl (L + 1 + 1 + 1) (ents.map Ent.z) cnt pvs tl ks → (∀ y : Str, y ≠ "mine" → m' y = m y) → oC'.data = .cell vC' → Fr h₀ L h' m' → News h₀ L h' ((L + 1 + 1 + 1, oC') :: (pl, listOf pvs np) :: (kfps ks ++ tl)) → wpAny (model Challenge.rw_no0415_01.row.prog w) (callerA.deeper (envOfC (Str.ofString "law") lawSc L a ccd)) (execs (R) (envOfC (Str.ofString "law") lawSc L a ccd)) Q E { s with heap := h', toks := tk' }) :
    wpAny (model Challenge.rw_no0415_01.row.prog w) (callerA.deeper (envOfC (Str.ofString "law") lawSc L a ccd)) (execs (lawAt 14 :: R) (envOfC (Str.ofString "law") lawSc L a ccd)) Q E s := by
  walk_at "mine open1"
  (have X1 := X; revert X1; k_fill; intro X1)
  walk_at "mine stepsF"
  rename Fr _ _ _ _ => FF
  rename News _ _ _ _ => NN
  refine' For_C (c := L + 1 + 1 + 1) h₀ rfl rfl rfl ?_ (hE := hPE)
  walk_at "mine stepsF"
  rename Fr _ _ _ _ => FF
  rename News _ _ _ _ => NN
  rename IsRange _ _ _ _ _ _ _ _ => RR
  refine iter_upC (n := cnt) (fun j m₁ news₁ => (∀ y : Str, y ≠ "mine" → m₁ y = m y) ∧ ∃ pvs np tl ks, news₁ = (pl, listOf pvs np) :: (kfps ks ++ tl) ∧ P14 rest pl (L + 1 + 1 + 1) (ents.map Ent.z) j pvs tl ks) rfl RR (by omega) FF NN hC (fun p hp => ?_) ⟨fun _ _ => rfl, _, _, rest, [], rfl, P14.start hr⟩ ?turn ?done
  · rcases List.mem_cons.mp hp with rfl | hp
    · exact hpc
    · exact (hr p hp).2
  case turn =>
    clear FF NN
    rintro j t m₁ news₁ h tk I o oC' hj ⟨hm, pvs, np, tl, ks, rfl, P⟩ hne hcI hoC F₁ N₁
    have hI1 : @Ne Nat pl I := (hne _ (.head _)).1
    have gs := P.grow.sub
    refine st14a (led := (I, o) :: (L + 1 + 1 + 1, oC') :: (pl, listOf pvs np) :: (kfps ks ++ tl)) (led0 := tl) B F₁ X N₁ T hE (.tail _ (.tail _ (.tail _ (List.mem_append_right _ (gs _ hcE))))) hF (.tail _ (.tail _ (.tail _ (List.mem_append_right _ (gs _ hcF))))) (j := j) (tj := t) hoC (.tail _ (.head _)) (.tail _ (.tail _ (.tail _ (List.mem_append_right _ (gs _ hl))))) (he.mono fun p hp => .tail _ (.tail _ (.tail _ (List.mem_append_right _ (gs p hp))))) (fun p hp => .tail _ (.tail _ (.tail _ (List.mem_append_right _ hp)))) (hf.mono gs) ?_
    intro rl mvs n'' h' tk' g1 g2 g3 F₂ N₂
    have q1 : @Ne Nat I rl := g1 _ (.head _)
    have q2 : @Ne Nat (L + 1 + 1 + 1) rl := g1 _ (.tail _ (.head _))
    have q3 : @Ne Nat pl rl := g1 _ (.tail _ (.tail _ (.head _)))
    have q4 : ∀ p ∈ kfps ks ++ tl, @Ne Nat p.1 rl := fun p hp => g1 _ (.tail _ (.tail _ (.tail _ hp)))
    refine st14b (pl := pl) (rl := rl) (od := od) (pvs := pvs) (np := np) (led := (rl, listOf mvs n'') :: (I, o) :: (L + 1 + 1 + 1, oC') :: (kfps ks ++ tl)) B F₂ X (news_of N₂ fun p hp => ?_) T ((hm "parts" (by decide)).trans e1) rfl ((hm "order" (by decide)).trans e3) (fun p hp => ?_) (by rw [P.size]; omega) ?_
    · rcases List.mem_cons.mp hp with rfl | hp
      · exact .tail _ (.tail _ (.tail _ (.head _)))
      · rcases List.mem_cons.mp hp with rfl | hp
        · exact .head _
        · rcases List.mem_cons.mp hp with rfl | hp
          · exact .tail _ (.head _)
          · rcases List.mem_cons.mp hp with rfl | hp
            · exact .tail _ (.tail _ (.head _))
            · exact .tail _ (.tail _ (.tail _ (.tail _ hp)))
    · rcases List.mem_cons.mp hp with rfl | hp
      · exact fun e => q3 e.symm
      · rcases List.mem_cons.mp hp with rfl | hp
        · exact fun e => hI1 e.symm
        · rcases List.mem_cons.mp hp with rfl | hp
          · exact fun e => hpc e.symm
          · exact (P.off p hp).1
    · intro x dx q t9 np' h₃ tk₃ x1 x2 x3 x4 F₃ N₃
      refine wpAny_execs_nil ?_
      have y1 := x2 _ (.head _)
      have y2 := x2 _ (.tail _ (.head _))
      have y3 := x2 _ (.tail _ (.tail _ (.head _)))
      have y4 : ∀ p ∈ kfps ks ++ tl, p.1 ≠ x ∧ p.1 ≠ dx := fun p hp => x2 p (.tail _ (.tail _ (.tail _ hp)))
      have P2 := P.more (w := w) (x := x) (dx := dx) (rl := rl) (od := od) (q := q) (t := t9) (mvs := mvs) (n := n'') ⟨.head _, .tail _ (.head _), g2, fun i k v hi => by
        obtain ⟨a', s1, s2, n9, h1, h2⟩ := g3 i k v hi
        exact ⟨a', s1, s2, n9, h1, .tail _ (.tail _ h2)⟩, rowsOf_ok hok, by have := rowsOf_len (ents.map Ent.z) j; rw [List.length_map] at this; omega, hO.mono fun p hp => .tail _ (.tail _ (gs p hp))⟩ (rowsOf_sorted hpw j) x1 y1.1 y1.2 ⟨x3, fun e => y3.1 e.symm⟩ ⟨x4, fun e => y3.2 e.symm⟩ ⟨fun e => q3 e.symm, fun e => q2 e.symm⟩ y4 q4
      refine ⟨h₃, tk₃, _, (pl, listOf (pvs.push (.ref x)) np') :: (kfps (ks ++ [⟨x, false, rowsOf (ents.map Ent.z) j, [(dx, LD q rl od (-1) t9)], none⟩]) ++ ((x, instObj 380 dx) :: (rl, listOf mvs n'') :: tl)), _, oC', _, rfl, F₃, N₃, ?_, ?_, hoC, fun p hp => (nomatch hp), fun p hp => ?_, fun p hp => ?_, fun y hy => ?_, _, _, _, _, rfl, P2⟩
      · exact .tail _ (.tail _ (.tail _ (.tail _ (.head _))))
      · exact .tail _ (.tail _ (.tail _ (.tail _ (.tail _ (.head _)))))
      · rcases List.mem_cons.mp hp with rfl | hp
        · exact .head _
        · rw [kfps_snoc] at hp
          rcases List.mem_append.mp hp with hp | hp
          · rcases List.mem_append.mp hp with hp | hp
            · exact .tail _ (.tail _ (.tail _ (.tail _ (.tail _ (.tail _ (List.mem_append_left _ hp))))))
            · rw [List.mem_singleton.mp hp]
              exact .tail _ (.tail _ (.head _))
          · rcases List.mem_cons.mp hp with rfl | hp
            · exact .tail _ (.head _)
            · rcases List.mem_cons.mp hp with rfl | hp
              · exact .tail _ (.tail _ (.tail _ (.head _)))
              · exact .tail _ (.tail _ (.tail _ (.tail _ (.tail _ (.tail _ (List.mem_append_right _ hp))))))
      · rcases List.mem_cons.mp hp with rfl | hp
        · exact ⟨hI1, hpc⟩
        · refine ⟨?_, (P2.off p hp).2⟩
          rw [kfps_snoc] at hp
          rcases List.mem_append.mp hp with hp | hp
          · rcases List.mem_append.mp hp with hp | hp
            · exact (hne p (.tail _ (List.mem_append_left _ hp))).1
            · rw [List.mem_singleton.mp hp]
              exact fun e => y2.2 e.symm
          · rcases List.mem_cons.mp hp with rfl | hp
            · exact fun e => y2.1 e.symm
            · rcases List.mem_cons.mp hp with rfl | hp
              · exact fun e => q1 e.symm
              · exact (hne p (.tail _ (List.mem_append_right _ hp))).1
      · simp only [if_neg hy]
        exact hm y hy
  case done =>
    clear FF NN
    rintro m₁ news₁ h tk oC' v ⟨hm, pvs, np, tl, ks, rfl, P⟩ hoC hne F₁ N₁
    exact k _ _ _ _ _ _ _ _ _ P hm hoC F₁ N₁
end
open PySem PySem.W PyProof.Rows PySem.Spec
set_option maxRecDepth 100000
section
variable {w : World} {dp un D : Nat} {A : Around} {h₀ : Heap} {L c : Addr} {m : Str → Option Value} {s : Shared} {news fp rest : Led} {E : Value → Shared → Prop} {wk : Bool} {rows : List RowB} {W : Led → Led → Addr → Option Nat → Prop} {p : Option Nat}
theorem gm_wk {pl : Sem Bool} {Q : Value × List Value → Shared → Prop} (S : WkSpec w D wk rows W) (hC : W fp rest c p) (F : Fr h₀ L s.heap m) (X : (Mine.hd.heap_39 w.params).In h₀) (N : News h₀ L s.heap news) (hs : ∀ p ∈ fp ++ rest, p ∈ news) (mn : MN)
    (h : Q (.ref (adrW wk mn), [.ref c]) s) : wpAny (model Challenge.rw_no0415_01.row.prog w) A (getMethod (.ref c) mn.name pl) Q E s := by
  obtain ⟨dx, es, n, h1, h2, h3⟩ := S.obj hC
  have I := InstAt.of_news N (hs _ (List.mem_append_right _ h1)) (hs _ (List.mem_append_left _ h2))
  have h3 := h3 mn
  revert X
  k_fill
  intro X
  cases wk <;> cases mn <;> exact method_inst F X I (by k_is) (by k_is) (by k_is) h3 h
theorem keep_wk (w : World) (kd : Bool) (mn : MN) : keepIn (Mine.hd.heap_39 w.params) (.ref (adrW kd mn)) = true := by
  cases kd <;> cases mn <;> rfl
end
set_option hygiene false in
local macro_rules | `(tactic| walk_at "getMethod ref") => `(tactic| ((with_reducible show wpAny _ _ (getMethod (Value.ref c) (PySem.Str.ofString "valid") _) _ _ _); k_dflt (refine' Mine.gm_wk ?S ?C ?F ?X ?N ?s MN.valid ?_; (case S => assumption); (case C => assumption); (case F => k_asm); (case X => k_asm); (case N => k_asm); (case s => walk_at "mine subW"); k_whole)))
set_option hygiene false in
local macro_rules | `(tactic| walk_at "getMethod ref") => `(tactic| ((with_reducible show wpAny _ _ (getMethod (Value.ref c) (PySem.Str.ofString "key") _) _ _ _); k_dflt (refine' Mine.gm_wk ?S ?C ?F ?X ?N ?s MN.key ?_; (case S => assumption); (case C => assumption); (case F => k_asm); (case X => k_asm); (case N => k_asm); (case s => walk_at "mine subW"); k_whole)))
set_option hygiene false in
local macro_rules | `(tactic| walk_at "getMethod ref") => `(tactic| ((with_reducible show wpAny _ _ (getMethod (Value.ref c) (PySem.Str.ofString "value") _) _ _ _); k_dflt (refine' Mine.gm_wk ?S ?C ?F ?X ?N ?s MN.value ?_; (case S => assumption); (case C => assumption); (case F => k_asm); (case X => k_asm); (case N => k_asm); (case s => walk_at "mine subW"); k_whole)))
set_option hygiene false in
local macro_rules | `(tactic| walk_at "getMethod ref") => `(tactic| ((with_reducible show wpAny _ _ (getMethod (Value.ref c) (PySem.Str.ofString "seek_first") _) _ _ _); k_dflt (refine' Mine.gm_wk ?S ?C ?F ?X ?N ?s MN.first ?_; (case S => assumption); (case C => assumption); (case F => k_asm); (case X => k_asm); (case N => k_asm); (case s => walk_at "mine subW"); k_whole)))
set_option hygiene false in
local macro_rules | `(tactic| walk_at "getMethod ref") => `(tactic| ((with_reducible show wpAny _ _ (getMethod (Value.ref c) (PySem.Str.ofString "seek_last") _) _ _ _); k_dflt (refine' Mine.gm_wk ?S ?C ?F ?X ?N ?s MN.last ?_; (case S => assumption); (case C => assumption); (case F => k_asm); (case X => k_asm); (case N => k_asm); (case s => walk_at "mine subW"); k_whole)))
set_option hygiene false in
local macro_rules | `(tactic| walk_at "getMethod ref") => `(tactic| ((with_reducible show wpAny _ _ (getMethod (Value.ref c) (PySem.Str.ofString "seek") _) _ _ _); k_dflt (refine' Mine.gm_wk ?S ?C ?F ?X ?N ?s MN.seek ?_; (case S => assumption); (case C => assumption); (case F => k_asm); (case X => k_asm); (case N => k_asm); (case s => walk_at "mine subW"); k_whole)))
set_option hygiene false in
local macro_rules | `(tactic| walk_at "getMethod ref") => `(tactic| ((with_reducible show wpAny _ _ (getMethod (Value.ref c) (PySem.Str.ofString "step") _) _ _ _); k_dflt (refine' Mine.gm_wk ?S ?C ?F ?X ?N ?s MN.step ?_; (case S => assumption); (case C => assumption); (case F => k_asm); (case X => k_asm); (case N => k_asm); (case s => walk_at "mine subW"); k_whole)))
set_option hygiene false in
local macro_rules | `(tactic| walk_at "getMethod ref") => `(tactic| ((with_reducible show wpAny _ _ (getMethod (Value.ref c) (PySem.Str.ofString "back") _) _ _ _); k_dflt (refine' Mine.gm_wk ?S ?C ?F ?X ?N ?s MN.back ?_; (case S => assumption); (case C => assumption); (case F => k_asm); (case X => k_asm); (case N => k_asm); (case s => walk_at "mine subW"); k_whole)))
set_option hygiene false in
local macro_rules | `(tactic| walk_at "callWith ref") => `(tactic| ((with_reducible show wpAny _ _ (callWith _ (Value.ref (Mine.adrW _ _)) _ _ _) _ _ _); k_dflt (first | (refine' callWith_K ?k1 (Mine.keep_wk _ _ _) ?_; (case k1 => k_asm); k_whole) | (refine' callWith_K0 ?k1 (Mine.keep_wk _ _ _) ?_; (case k1 => k_in); k_whole))))
set_option hygiene false in
local macro_rules | `(tactic| walk_at "mine subW") => `(tactic| (intro pp hpp; rcases List.mem_append.mp hpp with hpp | hpp; (repeat (first | exact List.mem_append_left _ hpp | refine List.Mem.tail _ ?_)); (have hpp := hR0 pp hpp); (repeat (first | exact List.mem_append_right _ hpp | refine List.Mem.tail _ ?_))))
set_option hygiene false in
local macro_rules | `(tactic| walk_at "mine stepsW") => `(tactic| repeat' (first | ((fail_if_success (with_reducible show wpAny _ _ (execs R _) _ _ _)); (fail_if_success (with_reducible show wpAny _ _ (call (Value.ref 683) _) _ _ _)); (fail_if_success (with_reducible show wpAny _ _ (call (Value.ref 664) _) _ _ _)); (fail_if_success (with_reducible show wpAny _ _ (call (Value.ref (Mine.adrW _ _)) _) _ _ _)); (fail_if_success (with_reducible show wpAny _ _ (eval (PySem.Expr.ListComp _ _ _ _) _) _ _ _)); (fail_if_success (with_reducible show PyProof.Rows.LCg.CompSrc _ _ _ _ _ _ _ _ _ _ _ _ _ _)); (fail_if_success (with_reducible show PyProof.Rows.LCg.CompEnd _ _ _ _ _ _ _ _ _ _ _ _ _ _)); (fail_if_success (with_reducible show PyProof.Rows.LCt.CompSrcT _ _ _ _ _ _ _ _ _ _ _ _ _ _ _)); (fail_if_success (with_reducible show wpAny _ _ (exec (PySem.Stmt.Assign _ (PySem.Expr.ListComp _ _ _ _) _) _) _ _ _)); (fail_if_success (with_reducible show PyProof.Rows.LCt.CompSrcT _ _ _ _ _ _ _ _ _ _ _ _ _ _ _)); (fail_if_success (with_reducible show (if _ then _ else _))); (first | (k_unfold; (try dsimp only)) | walk1 | (dsimp only; walk1) | (leave1; walk_say "STEP leave1"; (try dsimp only)) | fail "no step"))))
section
variable {w : World} {A₀ : Around} {base h₀ : Heap} {L a : Addr} {ccd : Value} {m mg mb : Str → Option Value} {mean : ExcName → Option Value} {s : Shared} {rest led : Led} {Q : Flow → Shared → Prop} {E : Value → Shared → Prop} {R : List Stmt}
set_option maxHeartbeats 8000000 in
theorem b0 {nl rl : Addr} {vs rvs : Array Value} {n kk i rn : Nat} {ti tp : Tok} {rows : List RowB} {place : Int} (B : Below A₀ base [] h₀) (F : Fr h₀ L s.heap m) (X : (Mine.hd.heap_39 w.params).In h₀) (N : News h₀ L s.heap (led)) (T : Top VW (looseW VW []) mean mg mb h₀)
    (hn : NumsIn led nl vs n kk) (e1 : m "nums" = some (.ref nl)) (e2 : m "i" = some (.int (i : Int) ti)) (e3 : m "place" = some (.int place tp)) (e4 : m "rows" = some (.ref rl)) (hi : i < 6) (hr : RowsL led rl rows rvs rn)
    (k : ∀ z zt at' b m' h' tk', 0 ≤ z → z < 2000000 → (∀ y : Str, y ≠ "x" → y ≠ "act" → y ≠ "off" → m' y = m y) → m' "x" = some (.int z zt) → m' "act" = some (.int (z.fmod 9) at') → m' "off" = some (.bool b) → (b = true ↔ place < 0 ∨ (rows.length : Int) ≤ place) → Fr h₀ L h' m' → News h₀ L h' led → wpAny (model Challenge.rw_no0415_01.row.prog w) (callerA.deeper (envOfC (Str.ofString "law") lawSc L a ccd)) (execs (R) (envOfC (Str.ofString "law") lawSc L a ccd)) Q E { s with heap := h', toks := tk' }) :
    wpAny (model Challenge.rw_no0415_01.row.prog w) (callerA.deeper (envOfC (Str.ofString "law") lawSc L a ccd)) (execs (lawBody 20 0 :: lawBody 20 1 :: lawBody 20 2 :: R) (envOfC (Str.ofString "law") lawSc L a ccd)) Q E s := by
  walk_at "mine openB3"
  (have X1 := X; revert X1; k_fill; intro X1)
  have hrl := hr.lst
  have hrz := hr.size
  have hrs := hr.small
  walk_at "mine stepsW"
  by_cases hp0 : place < 0
  · rw [if_pos (decide_eq_true hp0)]
    walk_at "mine stepsW"
    rename Fr _ _ _ _ => FF
    rename News _ _ _ _ => NN
    refine k z' _ _ true _ _ _ hz'.1 hz'.2 (fun y h1 h2 h3 => ?_) rfl rfl ?_ (by simp [hp0]) FF NN
    · simp only [if_neg h1, if_neg h2, if_neg h3]
    · show some (Value.bool (decide (place < 0))) = _
      rw [decide_eq_true hp0]
  · rw [if_neg (by simpa using hp0)]
    walk_at "mine stepsW"
    rename Fr _ _ _ _ => FF
    rename News _ _ _ _ => NN
    refine k z' _ _ (decide ((rows.length : Int) ≤ place)) _ _ _ hz'.1 hz'.2 (fun y h1 h2 h3 => ?_) rfl rfl ?_ (by simp [hp0]) FF NN
    · simp only [if_neg h1, if_neg h2, if_neg h3]
    · rfl
end
open PySem PySem.W PyProof.Rows PySem.Spec
set_option maxRecDepth 100000
set_option hygiene false in
local macro_rules | `(tactic| walk_at "storeName") => `(tactic| ((with_reducible show wpAny _ _ (storeName _ (PySem.Str.ofString "target") _) _ _ _); k_dflt (refine' storeX_C ?F ?N ?c ?U ?d ?_ ?a ?b; (case a => rfl); (case b => rfl); (case F => k_asm); (case N => k_asm); (case c => rfl); (case U => k_updF); (case d => k_asm); k_whole); intro h' oT' F' N' dT'))
set_option hygiene false in
local macro_rules | `(tactic| walk_at "storeName") => `(tactic| ((with_reducible show wpAny _ _ (storeName _ (PySem.Str.ofString "seq") _) _ _ _); k_dflt (refine' storeX_C ?F ?N ?c ?U ?d ?_ ?a ?b; (case a => rfl); (case b => rfl); (case F => k_asm); (case N => k_asm); (case c => rfl); (case U => k_updF); (case d => k_asm); k_whole); intro h' oS' F' N' dS'))
set_option hygiene false in
local macro_rules | `(tactic| walk_at "mine stepsV") => `(tactic| repeat' (first | ((fail_if_success (with_reducible show wpAny _ _ (execs R _) _ _ _)); (fail_if_success (with_reducible show wpAny _ _ (call (Value.ref 683) _) _ _ _)); (fail_if_success (with_reducible show wpAny _ _ (call (Value.ref 664) _) _ _ _)); (fail_if_success (with_reducible show wpAny _ _ (call (Value.ref (Mine.adrW _ _)) _) _ _ _)); (fail_if_success (with_reducible show wpAny _ _ (eval (PySem.Expr.ListComp _ _ _ _) _) _ _ _)); (fail_if_success (with_reducible show PyProof.Rows.LCg.CompSrc _ _ _ _ _ _ _ _ _ _ _ _ _ _)); (fail_if_success (with_reducible show PyProof.Rows.LCg.CompEnd _ _ _ _ _ _ _ _ _ _ _ _ _ _)); (fail_if_success (with_reducible show PyProof.Rows.LCt.CompSrcT _ _ _ _ _ _ _ _ _ _ _ _ _ _ _)); (fail_if_success (with_reducible show wpAny _ _ (exec (PySem.Stmt.Assign _ (PySem.Expr.ListComp _ _ _ _) _) _) _ _ _)); (fail_if_success (with_reducible show PyProof.Rows.LCt.CompSrcT _ _ _ _ _ _ _ _ _ _ _ _ _ _ _)); (fail_if_success (with_reducible show wpAny _ _ (compareOp Cmpop.Lt (Value.ref _) (Value.ref _)) _ _ _)); (first | (k_unfold; (try dsimp only)) | walk1 | (dsimp only; walk1) | (leave1; walk_say "STEP leave1"; (try dsimp only)) | fail "no step"))))
set_option hygiene false in
local macro_rules | `(tactic| walk_at "mine subE") => `(tactic| (rcases List.mem_append.mp hp with hp | hp; (exact News_in1 hp); (exact News_in2 hp)))
set_option hygiene false in
local macro_rules | `(tactic| walk_at "loadName") => `(tactic| (k_dflt (refine' Mine.loadN ?F ?v ?_ ?a ?b; (case a => rfl); (case b => rfl); (case F => k_asm); (case v => first | exact rfl | assumption); k_whole)))
theorem loadN {M : Model} {A : Around} {E : Value → Shared → Prop} {s : Shared} {h₀ : Heap} {L a : Addr} {m : Str → Option Value} {cn : Str} {cs : Scope} {ccd : Value} {cl : List (Str × Addr)} {x : Str} {v : Value} {Q : Value → Shared → Prop} (F : Fr h₀ L s.heap m) (hv : m x = some v) (h : Q v s) (hk : cs.kind = .function) (hx : (envX cn cs L a ccd cl).kindOf x = some .local) :
    wpAny M A (loadName (envX cn cs L a ccd cl) x) Q E s := wpAny_loadName_local hk hx F.ns hv h
theorem off_E {fp R1 : Led} {T S : Addr} {a b : Obj} (ho : Off fp R1) (hap : ∀ p ∈ fp ++ R1, p.1 ≠ T ∧ p.1 ≠ S) : Off fp ((T, a) :: (S, b) :: R1) := fun p hp q hq => by
  have h := hap p (List.mem_append_left _ hp)
  rcases List.mem_cons.mp hq with rfl | hq
  · exact fun e => h.1 e.symm
  · rcases List.mem_cons.mp hq with rfl | hq
    · exact fun e => h.2 e.symm
    · exact ho p hp q hq
theorem led_in {fp R1 : Led} {x y : Addr × Obj} : ∀ p ∈ fp ++ (x :: y :: R1), p ∈ x :: y :: (fp ++ R1) := fun p hp => by
  rcases List.mem_append.mp hp with hp | hp
  · exact .tail _ (.tail _ (List.mem_append_left _ hp))
  · rcases List.mem_cons.mp hp with rfl | hp
    · exact .head _
    · rcases List.mem_cons.mp hp with rfl | hp
      · exact .tail _ (.head _)
      · exact .tail _ (.tail _ (List.mem_append_right _ hp))
theorem led_out {fp R1 : Led} {x y : Addr × Obj} : ∀ p ∈ x :: y :: (fp ++ R1), p ∈ fp ++ (x :: y :: R1) := fun p hp => by
  rcases List.mem_cons.mp hp with rfl | hp
  · exact List.mem_append_right _ (.head _)
  · rcases List.mem_cons.mp hp with rfl | hp
    · exact List.mem_append_right _ (.tail _ (.head _))
    · rcases List.mem_append.mp hp with hp | hp
      · exact List.mem_append_left _ hp
      · exact List.mem_append_right _ (.tail _ (.tail _ hp))
theorem apart_new {fp fp' R1 : Led} {T S : Addr} (hs : sameAdr fp' fp) (hap : ∀ p ∈ fp ++ R1, p.1 ≠ T ∧ p.1 ≠ S) : ∀ p ∈ fp' ++ R1, p.1 ≠ T ∧ p.1 ≠ S := fun p hp => by
  rcases List.mem_append.mp hp with hp | hp
  · have : p.1 ∈ fp.map (·.1) := hs ▸ List.mem_map_of_mem hp
    obtain ⟨q, hq, e⟩ := List.mem_map.mp this
    have := hap q (List.mem_append_left _ hq)
    rw [e] at this
    exact this
  · exact hap p (List.mem_append_right _ hp)
section
variable {w : World} {A₀ : Around} {base h₀ : Heap} {L a : Addr} {ccd : Value} {m mg mb : Str → Option Value} {mean : ExcName → Option Value} {s : Shared} {rest led : Led} {Q : Flow → Shared → Prop} {E : Value → Shared → Prop} {R : List Stmt}
set_option maxHeartbeats 8000000 in
theorem b1 {D : Nat} {c : Addr} {wk : Bool} {rows : List RowB} {W : Led → Led → Addr → Option Nat → Prop} {fp R0 R1 : Led}{rl : Addr} {rvs : Array Value} {rn : Nat} {place z av : Int} {tp zt at' : Tok} {b : Bool} {oT oS : Obj} {vT vS : Option Value} {el : Addr} {vs : Array Value} {n cnt : Nat} {ents : List Ent} {oE : Obj} (B : Below A₀ base [] h₀) (F : Fr h₀ L s.heap m) (X : (Mine.hd.heap_39 w.params).In h₀) (N : News h₀ L s.heap ((L + 1 + 1 + 1 + 1, oT) :: (L + 1 + 1 + 1 + 1 + 1, oS) :: (fp ++ R1))) (T : Top VW (looseW VW []) mean mg mb h₀)
    (hS : WkSpec w D wk rows W) (hC : W fp R0 c (placeP rows.length place)) (hD : D ≤ 60) (hR0 : ∀ x ∈ R0, x ∈ R1) (ho : Off fp R1) (hT : oT.data = .cell vT) (hS5 : oS.data = .cell vS) (hap : ∀ p ∈ fp ++ R1, p.1 ≠ L + 1 + 1 + 1 + 1 ∧ p.1 ≠ L + 1 + 1 + 1 + 1 + 1) (e1 : m "x" = some (.int z zt)) (e2 : m "act" = some (.int av at')) (e3 : m "off" = some (.bool b)) (e4 : m "walker" = some (.ref c)) (e5 : m "merged" = some (.bool wk)) (e6 : m "place" = some (.int place tp)) (e7 : m "rows" = some (.ref rl)) (hz0 : 0 ≤ z) (hz1 : z < 2000000) (ha0 : 0 ≤ av) (ha1 : av < 9) (hb : b = true ↔ place < 0 ∨ (rows.length : Int) ≤ place) (hr : RowsL R0 rl rows rvs rn)
    (hE : oE.data = .cell (some (.ref el))) (hcE : (L + 1, oE) ∈ R0) (hl : (el, listOf vs n) ∈ R0) (he : EntsIn R0 vs ents) (hsz : ents.length ≤ 5) (hsm : wk = true → ∀ {fp E0 : Led} {p : Option Nat} (u : Array UInt8) (q : Nat) (t : Tok), W fp R0 c p → (∀ x ∈ R0, x ∈ E0) → Off fp E0 → u.size ≤ 8 → seqOk q → Calls w D (adrW wk .seek) [.ref c, .bytes (ikb ⟨u, q, 1⟩) t] fp E0 fun r fp' => r = .none ∧ sameAdr fp' fp ∧ W fp' R0 c (placeP rows.length ((ents.countP fun e => ltL (cut3 e) [.b u, .i (0 - (q : Int)), .i (-1)] : Nat) : Int))) (hsu : wk = false → ∀ {fp E0 : Led} {p : Option Nat} (u : Array UInt8) (t : Tok), W fp R0 c p → (∀ x ∈ R0, x ∈ E0) → Off fp E0 → u.size ≤ 8 → Calls w D (adrW wk .seek) [.ref c, .bytes u t] fp E0 fun r fp' => r = .none ∧ sameAdr fp' fp ∧ W fp' R0 c (placeP rows.length ((rows.countP fun r => ltB r.1 u : Nat) : Int)))
    (k : ∀ fp' place' tp' oT' oS' vT' vS' m' h' tk', sameAdr fp' fp → W fp' R0 c (placeP rows.length place') → oT'.data = .cell vT' → oS'.data = .cell vS' → (∀ y : Str, y ≠ "place" → m' y = m y) → m' "place" = some (.int place' tp') → Fr h₀ L h' m' → News h₀ L h' ((L + 1 + 1 + 1 + 1, oT') :: (L + 1 + 1 + 1 + 1 + 1, oS') :: (fp' ++ R1)) → wpAny (model Challenge.rw_no0415_01.row.prog w) (callerA.deeper (envOfC (Str.ofString "law") lawSc L a ccd)) (execs (R) (envOfC (Str.ofString "law") lawSc L a ccd)) Q E { s with heap := h', toks := tk' }) :
    wpAny (model Challenge.rw_no0415_01.row.prog w) (callerA.deeper (envOfC (Str.ofString "law") lawSc L a ccd)) (execs (lawBody 20 3 :: R) (envOfC (Str.ofString "law") lawSc L a ccd)) Q E s := by
  walk_at "mine openB1"
  (have X1 := X; revert X1; k_fill; intro X1)
  have hap1 : ∀ p ∈ fp ++ R1, p.1 ≠ L + 1 + 1 + 1 + 1 := fun p hp => (hap p hp).1
  have hap2 : ∀ p ∈ fp ++ R1, p.1 ≠ L + 1 + 1 + 1 + 1 + 1 := fun p hp => (hap p hp).2
  have hrl := hR0 _ hr.lst
  have hrz := hr.size
  have hrs := hr.small
  have hcE1 := hR0 _ hcE
  walk_at "mine stepsV"
  rotate_left 2
  · -- act 0
    rename Fr _ _ _ _ => FF
    rename News _ _ _ _ => NN
    refine (hS.first hC (E0 := (L + 1 + 1 + 1 + 1, oT) :: (L + 1 + 1 + 1 + 1 + 1, oS) :: R1) (fun x hx => .tail _ (.tail _ (hR0 x hx))) (off_E ho hap)).use B FF X NN T rfl (Nat.lt_of_le_of_lt (Nat.add_le_add_left hD _) (by ktr_room)) (Nat.lt_of_le_of_lt (Nat.add_le_add_left (Nat.mul_le_mul_left 8 hD) _) (by ktr_units)) (fun p hp => led_in p hp) ?_
    rintro r fp' h' tk' F' N' ⟨rfl, hsa, hW'⟩
    clear FF NN
    have N' := news_of N' (fun p hp => led_out p hp)
    have hrl2 : (rl, listOf rvs rn) ∈ fp' ++ R1 := List.mem_append_right _ hrl
    walk_at "mine stepsV"
    rename Fr _ _ _ _ => FF
    rename News _ _ _ _ => NN
    exact k fp' 0 _ _ _ _ _ _ _ _ hsa (by rw [← firstP_place]; exact hW') hT hS5 (fun y hy => by simp only [if_neg hy]) rfl FF NN
  · -- off, ahead
    rename Fr _ _ _ _ => FF
    rename News _ _ _ _ => NN
    refine (hS.first hC (E0 := (L + 1 + 1 + 1 + 1, oT) :: (L + 1 + 1 + 1 + 1 + 1, oS) :: R1) (fun x hx => .tail _ (.tail _ (hR0 x hx))) (off_E ho hap)).use B FF X NN T rfl (Nat.lt_of_le_of_lt (Nat.add_le_add_left hD _) (by ktr_room)) (Nat.lt_of_le_of_lt (Nat.add_le_add_left (Nat.mul_le_mul_left 8 hD) _) (by ktr_units)) (fun p hp => led_in p hp) ?_
    rintro r fp' h' tk' F' N' ⟨rfl, hsa, hW'⟩
    clear FF NN
    have N' := news_of N' (fun p hp => led_out p hp)
    have hrl2 : (rl, listOf rvs rn) ∈ fp' ++ R1 := List.mem_append_right _ hrl
    walk_at "mine stepsV"
    rename Fr _ _ _ _ => FF
    rename News _ _ _ _ => NN
    exact k fp' 0 _ _ _ _ _ _ _ _ hsa (by rw [← firstP_place]; exact hW') hT hS5 (fun y hy => by simp only [if_neg hy]) rfl FF NN
  · exfalso; omega
  · -- step
    have hin : ¬ (place < 0 ∨ (rows.length : Int) ≤ place) := fun h => by have := hb.mpr h; simp_all
    obtain ⟨pn, hpn⟩ : ∃ pn : Nat, place = pn := Int.eq_ofNat_of_zero_le (by omega)
    subst hpn
    have hpl : placeP rows.length (pn : Int) = some pn := by unfold placeP; rw [if_pos ⟨by omega, by omega⟩]; rfl
    have hC' := hC
    rw [hpl] at hC'
    rename Fr _ _ _ _ => FF
    rename News _ _ _ _ => NN
    refine (hS.step hC' (E0 := (L + 1 + 1 + 1 + 1, oT) :: (L + 1 + 1 + 1 + 1 + 1, oS) :: R1) (fun x hx => .tail _ (.tail _ (hR0 x hx))) (off_E ho hap)).use B FF X NN T rfl (Nat.lt_of_le_of_lt (Nat.add_le_add_left hD _) (by ktr_room)) (Nat.lt_of_le_of_lt (Nat.add_le_add_left (Nat.mul_le_mul_left 8 hD) _) (by ktr_units)) (fun p hp => led_in p hp) ?_
    rintro r fp' h' tk' F' N' ⟨rfl, hsa, hW'⟩
    clear FF NN
    have N' := news_of N' (fun p hp => led_out p hp)
    have hrl2 : (rl, listOf rvs rn) ∈ fp' ++ R1 := List.mem_append_right _ hrl
    walk_at "mine stepsV"
    rename Fr _ _ _ _ => FF
    rename News _ _ _ _ => NN
    exact k fp' ((pn : Int) + 1) _ _ _ _ _ _ _ _ hsa (by rw [← nextP_place (by omega)]; exact hW') hT hS5 (fun y hy => by simp only [if_neg hy]) rfl FF NN
  · exfalso; omega
  · -- off, back
    rename Fr _ _ _ _ => FF
    rename News _ _ _ _ => NN
    refine (hS.last hC (E0 := (L + 1 + 1 + 1 + 1, oT) :: (L + 1 + 1 + 1 + 1 + 1, oS) :: R1) (fun x hx => .tail _ (.tail _ (hR0 x hx))) (off_E ho hap)).use B FF X NN T rfl (Nat.lt_of_le_of_lt (Nat.add_le_add_left hD _) (by ktr_room)) (Nat.lt_of_le_of_lt (Nat.add_le_add_left (Nat.mul_le_mul_left 8 hD) _) (by ktr_units)) (fun p hp => led_in p hp) ?_
    rintro r fp' h' tk' F' N' ⟨rfl, hsa, hW'⟩
    clear FF NN
    have N' := news_of N' (fun p hp => led_out p hp)
    have hrl2 : (rl, listOf rvs rn) ∈ fp' ++ R1 := List.mem_append_right _ hrl
    walk_at "mine stepsV"
    rename Fr _ _ _ _ => FF
    rename News _ _ _ _ => NN
    exact k fp' ((rows.length : Int) - 1) _ _ _ _ _ _ _ _ hsa (by rw [← lastP_place]; exact hW') hT hS5 (fun y hy => by simp only [if_neg hy]) rfl FF NN
  · -- back
    have hin : ¬ (place < 0 ∨ (rows.length : Int) ≤ place) := fun h => by have := hb.mpr h; simp_all
    obtain ⟨pn, hpn⟩ : ∃ pn : Nat, place = pn := Int.eq_ofNat_of_zero_le (by omega)
    subst hpn
    have hpl : placeP rows.length (pn : Int) = some pn := by unfold placeP; rw [if_pos ⟨by omega, by omega⟩]; rfl
    have hC' := hC
    rw [hpl] at hC'
    rename Fr _ _ _ _ => FF
    rename News _ _ _ _ => NN
    refine (hS.back hC' (E0 := (L + 1 + 1 + 1 + 1, oT) :: (L + 1 + 1 + 1 + 1 + 1, oS) :: R1) (fun x hx => .tail _ (.tail _ (hR0 x hx))) (off_E ho hap)).use B FF X NN T rfl (Nat.lt_of_le_of_lt (Nat.add_le_add_left hD _) (by ktr_room)) (Nat.lt_of_le_of_lt (Nat.add_le_add_left (Nat.mul_le_mul_left 8 hD) _) (by ktr_units)) (fun p hp => led_in p hp) ?_
    rintro r fp' h' tk' F' N' ⟨rfl, hsa, hW'⟩
    clear FF NN
    have N' := news_of N' (fun p hp => led_out p hp)
    have hrl2 : (rl, listOf rvs rn) ∈ fp' ++ R1 := List.mem_append_right _ hrl
    walk_at "mine stepsV"
    rename Fr _ _ _ _ => FF
    rename News _ _ _ _ => NN
    exact k fp' ((pn : Int) - 1) _ _ _ _ _ _ _ _ hsa (by rw [← backP_place (by omega)]; exact hW') hT hS5 (fun y hy => by simp only [if_neg hy]) rfl FF NN
  · -- act 1
    rename Fr _ _ _ _ => FF
    rename News _ _ _ _ => NN
    refine (hS.last hC (E0 := (L + 1 + 1 + 1 + 1, oT) :: (L + 1 + 1 + 1 + 1 + 1, oS) :: R1) (fun x hx => .tail _ (.tail _ (hR0 x hx))) (off_E ho hap)).use B FF X NN T rfl (Nat.lt_of_le_of_lt (Nat.add_le_add_left hD _) (by ktr_room)) (Nat.lt_of_le_of_lt (Nat.add_le_add_left (Nat.mul_le_mul_left 8 hD) _) (by ktr_units)) (fun p hp => led_in p hp) ?_
    rintro r fp' h' tk' F' N' ⟨rfl, hsa, hW'⟩
    clear FF NN
    have N' := news_of N' (fun p hp => led_out p hp)
    have hrl2 : (rl, listOf rvs rn) ∈ fp' ++ R1 := List.mem_append_right _ hrl
    walk_at "mine stepsV"
    rename Fr _ _ _ _ => FF
    rename News _ _ _ _ => NN
    exact k fp' ((rows.length : Int) - 1) _ _ _ _ _ _ _ _ hsa (by rw [← lastP_place]; exact hW') hT hS5 (fun y hy => by simp only [if_neg hy]) rfl FF NN
  · exfalso; omega
  · -- seek, merged
    rename Fr _ _ _ _ => FF
    rename News _ _ _ _ => NN
    have hwk : wk = true := by assumption
    refine Mine.lik2_r B FF X NN T rfl (by ktr_room) (by ktr_units) (q := sq) (kd := 1) rfl rfl hsq (Nat.le_refl _) (by omega) fun t8 h8 tk8 F' N' => ?_
    clear FF NN
    walk_at "mine stepsV"
    rename Fr _ _ _ _ => FF
    rename News _ _ _ _ => NN
    refine (hsm hwk (E0 := (L + 1 + 1 + 1 + 1, oT') :: (L + 1 + 1 + 1 + 1 + 1, oS') :: R1) tv9 sq t8 hC (fun x hx => .tail _ (.tail _ (hR0 x hx))) (off_E ho hap) htv hsq).use B FF X NN T rfl (Nat.lt_of_le_of_lt (Nat.add_le_add_left hD _) (by ktr_room)) (Nat.lt_of_le_of_lt (Nat.add_le_add_left (Nat.mul_le_mul_left 8 hD) _) (by ktr_units)) (fun p hp => ?_) ?_
    · have := led_in p hp
      repeat (first | exact this | refine List.Mem.tail _ ?_)
    rintro r fp' h' tk' F' N' ⟨rfl, hsa, hW'⟩
    clear FF NN
    have N' := news_of N' (fun p hp => led_out p hp)
    have hcE2 : (L + 1, oE) ∈ fp' ++ R1 := List.mem_append_right _ hcE1
    have hl2 : (el, listOf vs n) ∈ fp' ++ R1 := List.mem_append_right _ (hR0 _ hl)
    walk_at "mine stepsV"
    rename Fr _ _ _ _ => FF
    rename News _ _ _ _ => NN
    refine' PyProof.Rows.LCt.ListComp_T (F₀ := FF) (by with_unfolding_all rfl) (by decide) (by rfl) (by decide) (by rfl) ?_
    walk_at "mine stepsV"
    rename Fr _ _ _ _ => FF
    rename News _ _ _ _ => NN
    refine PyProof.Rows.LCt.CompSrcT.ledger (its := vs) (k := n) rfl FF NN (.tail _ (.tail _ hl2)) (by have := he.size; rw [sizeLine_eq]; omega) fun g => ?_
    refine compRestT_inv (fun i ys nw => (∀ p ∈ (L + 1 + 1 + 1 + 1, oT') :: (L + 1 + 1 + 1 + 1 + 1, oS') :: (fp' ++ R1), p ∈ nw) ∧ ys.length = (ents.take i).countP fun e => ltL (cut3 e) [.b tv9, .i (0 - (sq : Int)), .i (-1)]) vs.size ?step ?fin _ 0 [] _ (Nat.zero_add _) ⟨fun p hp => hp, rfl⟩
    case step =>
      rintro i ys nw v I oI C oK D9 m₂ h tk E' hi ⟨g1, g2⟩ hP hNs hx FF NN hO ⟨n1, n2, n3⟩
      obtain ⟨e9, he9⟩ : ∃ e, ents[i]? = some e := ⟨_, List.getElem?_eq_getElem (by have := he.size; omega)⟩
      obtain ⟨aa, xs, kx, hv, hxm, hxf⟩ := he.at' i e9 he9
      rw [hv] at hP
      cases hP
      obtain ⟨y1, y2, y3, y4, y5, rfl⟩ := FAll_ent hxf
      have hxm2 := g1 _ (.tail _ (.tail _ (List.mem_append_right _ (hR0 _ hxm))))
      have hcT2 := g1 _ (.head _)
      have hcS2 := g1 _ (.tail _ (.head _))
      walk_at "mine stepsW"
      rename Fr _ _ _ _ => F2
      rename News _ _ _ _ => N2
      have htk : ents.take (i + 1) = ents.take i ++ [e9] := by rw [List.take_add_one, he9]; rfl
      refine Mine.lt_tuples N2 (.tail _ (.head _)) (.head _) (ds := cut3 e9) (es := [.b tv9, .i (0 - (sq : Int)), .i (-1)]) ⟨⟨_, rfl⟩, ⟨_, rfl⟩, ⟨_, rfl⟩, trivial⟩ ⟨⟨_, rfl⟩, ⟨_, rfl⟩, ⟨_, rfl⟩, trivial⟩ ⟨trivial, trivial, trivial, trivial⟩ (by ktr_units) ?_
      walk_at "mine stepsW"
      by_cases hlt : ltL (cut3 e9) [.b tv9, .i (0 - (sq : Int)), .i (-1)] = true
      · rw [if_pos hlt]
        walk_at "mine stepsW"
        rename Fr _ _ _ _ => F3
        rename News _ _ _ _ => N3
        refine PyProof.Rows.LCg.CompEnd.intro F3 N3 nw (fun p hp => .tail _ (.tail _ hp)) hO (.inr ⟨_, g1 _ (.tail _ (.tail _ hl2)), rfl, _, rfl⟩) ⟨g1, ?_⟩
        rw [htk, List.countP_append, List.length_append, g2]
        exact congrArg (_ + ·) (List.countP_cons_of_pos (p := fun e => ltL (cut3 e) [.b tv9, .i (0 - (sq : Int)), .i (-1)]) (a := e9) (l := []) hlt).symm
      · rw [if_neg hlt]
        refine PyProof.Rows.LCg.CompEnd.intro F2 N2 nw (fun p hp => .tail _ (.tail _ hp)) hO (.inr ⟨_, g1 _ (.tail _ (.tail _ hl2)), rfl, _, rfl⟩) ⟨g1, ?_⟩
        rw [htk, List.countP_append, g2]
        have h0 := List.countP_cons_of_neg (p := fun e => ltL (cut3 e) [.b tv9, .i (0 - (sq : Int)), .i (-1)]) (a := e9) (l := []) hlt
        rw [List.countP_nil] at h0
        omega
    case fin =>
      clear FF NN
      rintro ys nw ⟨g1, g2⟩
      unfold PyProof.Rows.LCg.FinE
      intro D9 h tk FF NN hO
      have hall : ents.take vs.size = ents := List.take_of_length_le (by have := he.size; omega)
      rw [hall] at g2
      have N3 := news_of NN (b := (D9, PyProof.Rows.LCg.lst ys) :: (L + 1 + 1 + 1 + 1, oT') :: (L + 1 + 1 + 1 + 1 + 1, oS') :: (fp' ++ R1)) fun p hp => by
        rcases List.mem_cons.mp hp with rfl | hp
        · exact .head _
        · exact .tail _ (g1 _ hp)
      clear NN
      have hyz : ys.toArray.size = ents.countP (fun e => ltL (cut3 e) [.b tv9, .i (0 - (sq : Int)), .i (-1)]) := by rw [List.size_toArray]; exact g2
      have hcb : ents.countP (fun e => ltL (cut3 e) [.b tv9, .i (0 - (sq : Int)), .i (-1)]) ≤ 5 := Nat.le_trans List.countP_le_length hsz
      walk_at "mine stepsV"
      rename Fr _ _ _ _ => FF
      rename News _ _ _ _ => NN
      exact k fp' _ _ _ _ _ _ _ _ _ hsa hW' dT' dS' (fun y hy => by simp only [if_neg hy]) rfl FF (news_of NN fun p hp => .tail _ hp)
  · -- seek, user
    rename Fr _ _ _ _ => FF
    rename News _ _ _ _ => NN
    have hwk : wk = false := by assumption
    refine (hsu hwk (E0 := (L + 1 + 1 + 1 + 1, oT') :: (L + 1 + 1 + 1 + 1 + 1, oS') :: R1) tv9 _ hC (fun x hx => .tail _ (.tail _ (hR0 x hx))) (off_E ho hap) htv).use B FF X NN T rfl (Nat.lt_of_le_of_lt (Nat.add_le_add_left hD _) (by ktr_room)) (Nat.lt_of_le_of_lt (Nat.add_le_add_left (Nat.mul_le_mul_left 8 hD) _) (by ktr_units)) (fun p hp => ?_) ?_
    · have := led_in p hp
      repeat (first | exact this | refine List.Mem.tail _ ?_)
    rintro r fp' h' tk' F' N' ⟨rfl, hsa, hW'⟩
    clear FF NN
    have N' := news_of N' (fun p hp => led_out p hp)
    have hrl2 : (rl, listOf rvs rn) ∈ fp' ++ R1 := List.mem_append_right _ hrl
    walk_at "mine stepsV"
    rename Fr _ _ _ _ => FF
    rename News _ _ _ _ => NN
    refine' PyProof.Rows.LCt.ListComp_T (F₀ := FF) (by with_unfolding_all rfl) (by decide) (by rfl) (by decide) (by rfl) ?_
    walk_at "mine stepsV"
    rename Fr _ _ _ _ => FF
    rename News _ _ _ _ => NN
    refine PyProof.Rows.LCt.CompSrcT.ledger (its := rvs) (k := rn) rfl FF NN (.tail _ (.tail _ hrl2)) (by rw [sizeLine_eq]; omega) fun g => ?_
    refine compRestT_inv (fun i ys nw => (∀ p ∈ (L + 1 + 1 + 1 + 1, oT') :: (L + 1 + 1 + 1 + 1 + 1, oS') :: (fp' ++ R1), p ∈ nw) ∧ ys.length = (rows.take i).countP fun r => ltB r.1 tv9) rvs.size ?step ?fin _ 0 [] _ (Nat.zero_add _) ⟨fun p hp => hp, rfl⟩
    case step =>
      rintro i ys nw v I oI C oK D9 m₂ h tk E' hi ⟨g1, g2⟩ hP hNs hx FF NN hO ⟨n1, n2, n3⟩
      obtain ⟨⟨rk, rv⟩, he9⟩ : ∃ e, rows[i]? = some e := ⟨_, List.getElem?_eq_getElem (by omega)⟩
      obtain ⟨aa, t1, t2, kx, hv, hxm⟩ := hr.row i rk rv he9
      rw [hv] at hP
      cases hP
      have hxm2 := g1 _ (.tail _ (.tail _ (List.mem_append_right _ (hR0 _ hxm))))
      have hcT2 := g1 _ (.head _)
      have htk : rows.take (i + 1) = rows.take i ++ [(rk, rv)] := by rw [List.take_add_one, he9]; rfl
      walk_at "mine stepsW"
      rename Fr _ _ _ _ => F2
      rename News _ _ _ _ => N2
      by_cases hlt : ltB rk tv9 = true
      · rw [if_pos hlt]
        walk_at "mine stepsW"
        rename Fr _ _ _ _ => F3
        rename News _ _ _ _ => N3
        refine PyProof.Rows.LCg.CompEnd.intro F3 N3 nw (fun p hp => hp) hO (.inr ⟨_, g1 _ (.tail _ (.tail _ hrl2)), rfl, _, rfl⟩) ⟨g1, ?_⟩
        rw [htk, List.countP_append, List.length_append, g2]
        simp [hlt]
      · rw [if_neg hlt]
        refine PyProof.Rows.LCg.CompEnd.intro F2 N2 nw (fun p hp => hp) hO (.inr ⟨_, g1 _ (.tail _ (.tail _ hrl2)), rfl, _, rfl⟩) ⟨g1, ?_⟩
        rw [htk, List.countP_append, g2]
        simp [hlt]
    case fin =>
      clear FF NN
      rintro ys nw ⟨g1, g2⟩
      unfold PyProof.Rows.LCg.FinE
      intro D9 h tk FF NN hO
      have hall : rows.take rvs.size = rows := List.take_of_length_le (by omega)
      rw [hall] at g2
      have N3 := news_of NN (b := (D9, PyProof.Rows.LCg.lst ys) :: (L + 1 + 1 + 1 + 1, oT') :: (L + 1 + 1 + 1 + 1 + 1, oS') :: (fp' ++ R1)) fun p hp => by
        rcases List.mem_cons.mp hp with rfl | hp
        · exact .head _
        · exact .tail _ (g1 _ hp)
      clear NN
      have hyz : ys.toArray.size = rows.countP (fun r => ltB r.1 tv9) := by rw [List.size_toArray]; exact g2
      have hcb : rows.countP (fun r => ltB r.1 tv9) ≤ 1000 := Nat.le_trans List.countP_le_length hrs
      walk_at "mine stepsV"
      rename Fr _ _ _ _ => FF
      rename News _ _ _ _ => NN
      exact k fp' _ _ _ _ _ _ _ _ _ hsa hW' dT' dS' (fun y hy => by simp only [if_neg hy]) rfl FF (news_of NN fun p hp => .tail _ hp)
end
open PySem PySem.W PyProof.Rows PySem.Spec
set_option maxRecDepth 100000
set_option hygiene false in
local macro_rules | `(tactic| walk_at "mine stepsF") => `(tactic| repeat' (first | ((fail_if_success (with_reducible show wpAny _ _ (execs R _) _ _ _)); (fail_if_success (with_reducible show wpAny _ _ (exec (PySem.Stmt.For _ _ _ _ _) _) _ _ _)); (fail_if_success (with_reducible show wpAny _ _ (pyIter _) _ _ _)); (fail_if_success (with_reducible show wpAny _ _ (call (Value.ref 683) _) _ _ _)); (first | (k_unfold; (try dsimp only)) | walk1 | (dsimp only; walk1) | (leave1; walk_say "STEP leave1"; (try dsimp only)) | fail "no step"))))
section
variable {w : World} {A₀ : Around} {base h₀ : Heap} {L a : Addr} {ccd : Value} {m mg mb : Str → Option Value} {mean : ExcName → Option Value} {s : Shared} {rest led : Led} {Q : Flow → Shared → Prop} {E : Value → Shared → Prop} {R : List Stmt}
set_option maxHeartbeats 8000000 in
theorem b2 {D : Nat} {c : Addr} {wk : Bool} {rows : List RowB} {W : Led → Led → Addr → Option Nat → Prop} {fp R0 R1 : Led}{rl : Addr} {rvs : Array Value} {rn : Nat} {place : Int} {tp : Tok} {E0 : Led} (B : Below A₀ base [] h₀) (F : Fr h₀ L s.heap m) (X : (Mine.hd.heap_39 w.params).In h₀) (N : News h₀ L s.heap (fp ++ E0)) (T : Top VW (looseW VW []) mean mg mb h₀)
    (XB : (Mine.hd.heap_39 w.params).In base) (TB : Top VW (looseW VW []) mean mg mb base) (hS : WkSpec w D wk rows W) (hC : W fp R0 c (placeP rows.length place)) (hD : D ≤ 60) (hR0 : ∀ x ∈ R0, x ∈ E0) (ho : Off fp E0) (hr : RowsL E0 rl rows rvs rn) (e4 : m "walker" = some (.ref c)) (e6 : m "place" = some (.int place tp)) (e7 : m "rows" = some (.ref rl))
    (k : ∀ h' tk', Fr h₀ L h' m → News h₀ L h' (fp ++ E0) → wpAny (model Challenge.rw_no0415_01.row.prog w) (callerA.deeper (envOfC (Str.ofString "law") lawSc L a ccd)) (execs (R) (envOfC (Str.ofString "law") lawSc L a ccd)) Q E { s with heap := h', toks := tk' }) :
    wpAny (model Challenge.rw_no0415_01.row.prog w) (callerA.deeper (envOfC (Str.ofString "law") lawSc L a ccd)) (execs (lawBody 20 4 :: R) (envOfC (Str.ofString "law") lawSc L a ccd)) Q E s := by
  walk_at "mine openB1"
  (have X1 := X; revert X1; k_fill; intro X1)
  walk_at "mine stepsF"
  rename Fr _ _ _ _ => FF
  rename News _ _ _ _ => NN
  refine hS.agree hC hR0 ho hr _ _ _ _ _ _ _ _ _ _ _ _ _ _ _ _ _ _ _ B FF X NN T XB TB rfl (Nat.lt_of_le_of_lt (Nat.add_le_add_left (Nat.add_le_add_right hD 12) _) (by ktr_room)) (Nat.lt_of_le_of_lt (Nat.add_le_add_left (Nat.mul_le_mul_left 8 (Nat.add_le_add_right hD 12)) _) (by ktr_units)) ?_
  rintro r fp' h' tk' F' N' ⟨rfl, rfl⟩
  clear FF NN
  walk_at "mine stepsF"
  rename Fr _ _ _ _ => FF
  rename News _ _ _ _ => NN
  exact k _ _ FF NN
set_option maxHeartbeats 8000000 in
theorem st19 {D : Nat} {c : Addr} {wk : Bool} {rows : List RowB} {W : Led → Led → Addr → Option Nat → Prop} {fp R0 R1 : Led}{rl : Addr} {rvs : Array Value} {rn : Nat} {place : Int} {tp : Tok} {E0 : Led} (B : Below A₀ base [] h₀) (F : Fr h₀ L s.heap m) (X : (Mine.hd.heap_39 w.params).In h₀) (N : News h₀ L s.heap (fp ++ E0)) (T : Top VW (looseW VW []) mean mg mb h₀)
    (XB : (Mine.hd.heap_39 w.params).In base) (TB : Top VW (looseW VW []) mean mg mb base) (hS : WkSpec w D wk rows W) (hC : W fp R0 c (placeP rows.length place)) (hD : D ≤ 60) (hR0 : ∀ x ∈ R0, x ∈ E0) (ho : Off fp E0) (hr : RowsL E0 rl rows rvs rn) (e4 : m "walker" = some (.ref c)) (e6 : m "place" = some (.int place tp)) (e7 : m "rows" = some (.ref rl))
    (k : ∀ h' tk', Fr h₀ L h' m → News h₀ L h' (fp ++ E0) → wpAny (model Challenge.rw_no0415_01.row.prog w) (callerA.deeper (envOfC (Str.ofString "law") lawSc L a ccd)) (execs (R) (envOfC (Str.ofString "law") lawSc L a ccd)) Q E { s with heap := h', toks := tk' }) :
    wpAny (model Challenge.rw_no0415_01.row.prog w) (callerA.deeper (envOfC (Str.ofString "law") lawSc L a ccd)) (execs (lawAt 19 :: R) (envOfC (Str.ofString "law") lawSc L a ccd)) Q E s := by
  walk_at "mine open1"
  (have X1 := X; revert X1; k_fill; intro X1)
  walk_at "mine stepsF"
  rename Fr _ _ _ _ => FF
  rename News _ _ _ _ => NN
  refine hS.agree hC hR0 ho hr _ _ _ _ _ _ _ _ _ _ _ _ _ _ _ _ _ _ _ B FF X NN T XB TB rfl (Nat.lt_of_le_of_lt (Nat.add_le_add_left (Nat.add_le_add_right hD 12) _) (by ktr_room)) (Nat.lt_of_le_of_lt (Nat.add_le_add_left (Nat.mul_le_mul_left 8 (Nat.add_le_add_right hD 12)) _) (by ktr_units)) ?_
  rintro r fp' h' tk' F' N' ⟨rfl, rfl⟩
  clear FF NN
  walk_at "mine stepsF"
  rename Fr _ _ _ _ => FF
  rename News _ _ _ _ => NN
  exact k _ _ FF NN
set_option maxHeartbeats 8000000 in
theorem st18  (B : Below A₀ base [] h₀) (F : Fr h₀ L s.heap m) (X : (Mine.hd.heap_39 w.params).In h₀) (N : News h₀ L s.heap (rest)) (T : Top VW (looseW VW []) mean mg mb h₀)
    (k : ∀ tp h' tk', Fr h₀ L h' (fun y => if y = "place" then some (.int (-1) tp) else m y) → News h₀ L h' rest → wpAny (model Challenge.rw_no0415_01.row.prog w) (callerA.deeper (envOfC (Str.ofString "law") lawSc L a ccd)) (execs (R) (envOfC (Str.ofString "law") lawSc L a ccd)) Q E { s with heap := h', toks := tk' }) :
    wpAny (model Challenge.rw_no0415_01.row.prog w) (callerA.deeper (envOfC (Str.ofString "law") lawSc L a ccd)) (execs (lawAt 18 :: R) (envOfC (Str.ofString "law") lawSc L a ccd)) Q E s := by
  walk_at "mine open1"
  (have X1 := X; revert X1; k_fill; intro X1)
  walk_at "mine stepsF"
  rename Fr _ _ _ _ => FF
  rename News _ _ _ _ => NN
  exact k _ _ _ FF NN
end
open PySem PySem.W PyProof.Rows PySem.Spec
set_option maxRecDepth 100000
section
variable {w : World} {A₀ : Around} {base h₀ : Heap} {L a : Addr} {ccd : Value} {m mg mb : Str → Option Value} {mean : ExcName → Option Value} {s : Shared} {rest led : Led} {Q : Flow → Shared → Prop} {E : Value → Shared → Prop} {R : List Stmt}
set_option maxHeartbeats 8000000 in
theorem st20 {D : Nat} {c : Addr} {wk : Bool} {rows : List RowB} {W : Led → Led → Addr → Option Nat → Prop} {fp R0 : Led}{rl nl : Addr} {rvs nvs : Array Value} {rn nn kk : Nat} {place : Int} {tp : Tok} {oT oS : Obj} {vT vS : Option Value} {el : Addr} {vs : Array Value} {n : Nat} {ents : List Ent} {oE : Obj} (B : Below A₀ base [] h₀) (F : Fr h₀ L s.heap m) (X : (Mine.hd.heap_39 w.params).In h₀) (N : News h₀ L s.heap ((L + 1 + 1 + 1 + 1, oT) :: (L + 1 + 1 + 1 + 1 + 1, oS) :: (fp ++ R0))) (T : Top VW (looseW VW []) mean mg mb h₀)
    (hPE : PassesOwn (model Challenge.rw_no0415_01.row.prog w) (callerA.deeper (envOfC (Str.ofString "law") lawSc L a ccd)) (envOfC (Str.ofString "law") lawSc L a ccd) E)(XB : (Mine.hd.heap_39 w.params).In base) (TB : Top VW (looseW VW []) mean mg mb base) (hS : WkSpec w D wk rows W) (hC : W fp R0 c (placeP rows.length place)) (hD : D ≤ 60) (ho : Off fp R0) (hT : oT.data = .cell vT) (hS5 : oS.data = .cell vS) (hap : ∀ p ∈ fp ++ R0, p.1 ≠ L + 1 + 1 + 1 + 1 ∧ p.1 ≠ L + 1 + 1 + 1 + 1 + 1) (hn : NumsIn R0 nl nvs nn kk) (e1 : m "nums" = some (.ref nl)) (e4 : m "walker" = some (.ref c)) (e5 : m "merged" = some (.bool wk)) (e6 : m "place" = some (.int place tp)) (e7 : m "rows" = some (.ref rl)) (hr : RowsL R0 rl rows rvs rn)
    (hE : oE.data = .cell (some (.ref el))) (hcE : (L + 1, oE) ∈ R0) (hl : (el, listOf vs n) ∈ R0) (he : EntsIn R0 vs ents) (hsz : ents.length ≤ 5) (hsm : wk = true → ∀ {fp E0 : Led} {p : Option Nat} (u : Array UInt8) (q : Nat) (t : Tok), W fp R0 c p → (∀ x ∈ R0, x ∈ E0) → Off fp E0 → u.size ≤ 8 → seqOk q → Calls w D (adrW wk .seek) [.ref c, .bytes (ikb ⟨u, q, 1⟩) t] fp E0 fun r fp' => r = .none ∧ sameAdr fp' fp ∧ W fp' R0 c (placeP rows.length ((ents.countP fun e => ltL (cut3 e) [.b u, .i (0 - (q : Int)), .i (-1)] : Nat) : Int))) (hsu : wk = false → ∀ {fp E0 : Led} {p : Option Nat} (u : Array UInt8) (t : Tok), W fp R0 c p → (∀ x ∈ R0, x ∈ E0) → Off fp E0 → u.size ≤ 8 → Calls w D (adrW wk .seek) [.ref c, .bytes u t] fp E0 fun r fp' => r = .none ∧ sameAdr fp' fp ∧ W fp' R0 c (placeP rows.length ((rows.countP fun r => ltB r.1 u : Nat) : Int)))
    (k : ∀ m' h' tk' led, Fr h₀ L h' m' → News h₀ L h' led → wpAny (model Challenge.rw_no0415_01.row.prog w) (callerA.deeper (envOfC (Str.ofString "law") lawSc L a ccd)) (execs (R) (envOfC (Str.ofString "law") lawSc L a ccd)) Q E { s with heap := h', toks := tk' }) :
    wpAny (model Challenge.rw_no0415_01.row.prog w) (callerA.deeper (envOfC (Str.ofString "law") lawSc L a ccd)) (execs (lawAt 20 :: R) (envOfC (Str.ofString "law") lawSc L a ccd)) Q E s := by
  walk_at "mine open1"
  (have X1 := X; revert X1; k_fill; intro X1)
  walk_at "mine stepsF"
  rename Fr _ _ _ _ => FF
  rename News _ _ _ _ => NN
  refine' For_F FF rfl rfl ?_ (hE := hPE)
  walk_at "mine stepsF"
  rename Fr _ _ _ _ => FF
  rename News _ _ _ _ => NN
  rename IsRange _ _ _ _ _ _ _ _ => RR
  refine iter_up (n := 6) (fun i m₁ news₁ => (∀ y : Str, y ≠ "i" → y ≠ "x" → y ≠ "act" → y ≠ "off" → y ≠ "place" → m₁ y = m y) ∧ ∃ fp place tp oT oS vT vS, news₁ = (L + 1 + 1 + 1 + 1, oT) :: (L + 1 + 1 + 1 + 1 + 1, oS) :: (fp ++ R0) ∧ oT.data = .cell vT ∧ oS.data = .cell vS ∧ m₁ "place" = some (.int place tp) ∧ W fp R0 c (placeP rows.length place) ∧ Off fp R0 ∧ ∀ p ∈ fp ++ R0, p.1 ≠ L + 1 + 1 + 1 + 1 ∧ p.1 ≠ L + 1 + 1 + 1 + 1 + 1) rfl RR (by decide) FF NN ⟨fun _ _ _ _ _ _ => rfl, _, _, _, _, _, _, _, rfl, hT, hS5, e6, hC, ho, hap⟩ ?turn ?done
  case turn =>
    clear FF NN
    rintro i t m₁ news₁ h tk I o hi ⟨hm, fp, place, tp, oT, oS, vT, vS, rfl, hT, hS5, e6, hC, ho, hap⟩ hne F₁ N₁
    have gT : @Ne Nat (L + 1 + 1 + 1 + 1) I := hne _ (.head _)
    have gS : @Ne Nat (L + 1 + 1 + 1 + 1 + 1) I := hne _ (.tail _ (.head _))
    have gI : ∀ p ∈ fp ++ R0, @Ne Nat p.1 I := fun p hp => hne p (.tail _ (.tail _ hp))
    have hap2 : ∀ p ∈ fp ++ ((I, o) :: R0), p.1 ≠ L + 1 + 1 + 1 + 1 ∧ p.1 ≠ L + 1 + 1 + 1 + 1 + 1 := fun p hp => by
      rcases List.mem_append.mp hp with hp | hp
      · exact hap p (List.mem_append_left _ hp)
      · rcases List.mem_cons.mp hp with rfl | hp
        · exact ⟨fun e => gT e.symm, fun e => gS e.symm⟩
        · exact hap p (List.mem_append_right _ hp)
    have hoI : Off fp ((I, o) :: R0) := fun p hp q hq => by
      rcases List.mem_cons.mp hq with rfl | hq
      · exact fun e => gI p (List.mem_append_left _ hp) e.symm
      · exact ho p hp q hq
    refine b0 B F₁ X N₁ T (hn.mono fun p hp => .tail _ (.tail _ (.tail _ (List.mem_append_right _ hp)))) ((hm "nums" (by decide) (by decide) (by decide) (by decide) (by decide)).trans e1) (i := i) (ti := t) rfl (place := place) (tp := tp) e6 ((hm "rows" (by decide) (by decide) (by decide) (by decide) (by decide)).trans e7) hi (hr.mono fun p hp => .tail _ (.tail _ (.tail _ (List.mem_append_right _ hp)))) ?_
    intro z zt at' b m₂ h₂ tk₂ hz0 hz1 hm2 x1 x2 x3 hb F₂ N₂
    have hav0 : (0 : Int) ≤ z.fmod 9 := Int.fmod_nonneg_of_pos _ (by decide)
    have hav1 : z.fmod 9 < 9 := Int.fmod_lt_of_pos _ (by decide)
    refine b1 (cnt := 0) (R1 := (I, o) :: R0) B F₂ X (news_of N₂ fun p hp => ?_) T hS hC hD (fun x hx => .tail _ hx) hoI hT hS5 hap2 x1 x2 x3 ((hm2 "walker" (by decide) (by decide) (by decide)).trans ((hm "walker" (by decide) (by decide) (by decide) (by decide) (by decide)).trans e4)) ((hm2 "merged" (by decide) (by decide) (by decide)).trans ((hm "merged" (by decide) (by decide) (by decide) (by decide) (by decide)).trans e5)) ((hm2 "place" (by decide) (by decide) (by decide)).trans e6) ((hm2 "rows" (by decide) (by decide) (by decide)).trans ((hm "rows" (by decide) (by decide) (by decide) (by decide) (by decide)).trans e7)) hz0 hz1 hav0 hav1 hb hr hE hcE hl he hsz hsm hsu ?_
    · rcases List.mem_cons.mp hp with rfl | hp
      · exact .tail _ (.head _)
      · rcases List.mem_cons.mp hp with rfl | hp
        · exact .tail _ (.tail _ (.head _))
        · rcases List.mem_append.mp hp with hp | hp
          · exact .tail _ (.tail _ (.tail _ (List.mem_append_left _ hp)))
          · rcases List.mem_cons.mp hp with rfl | hp
            · exact .head _
            · exact .tail _ (.tail _ (.tail _ (List.mem_append_right _ hp)))
    · intro fp' place' tp' oT' oS' vT' vS' m₃ h₃ tk₃ hsa hW' hT' hS' hm3 x6 F₃ N₃
      have hap3 := apart_new hsa hap2
      have ho3 : Off fp' ((I, o) :: R0) := hoI.adr hsa
      have g3 : ∀ y : Str, y ≠ "i" → y ≠ "x" → y ≠ "act" → y ≠ "off" → y ≠ "place" → m₃ y = m y := fun y h1 h2 h3 h4 h5 => by
        rw [hm3 y h5, hm2 y h2 h3 h4]
        simp only [if_neg h1]
        exact hm y h1 h2 h3 h4 h5
      refine b2 (R1 := []) (fp := fp') (E0 := (L + 1 + 1 + 1 + 1, oT') :: (L + 1 + 1 + 1 + 1 + 1, oS') :: (I, o) :: R0) B F₃ X (news_of N₃ fun p hp => led_in p hp) T XB TB hS hW' hD (fun x hx => .tail _ (.tail _ (.tail _ hx))) (off_E ho3 hap3) (hr.mono fun x hx => .tail _ (.tail _ (.tail _ hx))) ((g3 "walker" (by decide) (by decide) (by decide) (by decide) (by decide)).trans e4) x6 ((g3 "rows" (by decide) (by decide) (by decide) (by decide) (by decide)).trans e7) ?_
      intro h₄ tk₄ F₄ N₄
      refine wpAny_execs_nil ?_
      refine TurnJ.next (news' := (L + 1 + 1 + 1 + 1, oT') :: (L + 1 + 1 + 1 + 1 + 1, oS') :: (fp' ++ R0)) (.inl rfl) F₄ N₄ (List.mem_append_right _ (.tail _ (.tail _ (.head _)))) (fun p hp => ?_) (fun p hp => ?_) ⟨g3, fp', place', tp', oT', oS', vT', vS', rfl, hT', hS', x6, hW', fun p hp q hq => ho3 p hp q (.tail _ hq), fun p hp => hap3 p ?_⟩
      · rcases List.mem_cons.mp hp with rfl | hp
        · exact List.mem_append_right _ (.head _)
        · rcases List.mem_cons.mp hp with rfl | hp
          · exact List.mem_append_right _ (.tail _ (.head _))
          · rcases List.mem_append.mp hp with hp | hp
            · exact List.mem_append_left _ hp
            · exact List.mem_append_right _ (.tail _ (.tail _ (.tail _ hp)))
      · rcases List.mem_cons.mp hp with rfl | hp
        · exact gT
        · rcases List.mem_cons.mp hp with rfl | hp
          · exact gS
          · rcases List.mem_append.mp hp with hp | hp
            · exact fun e => ho3 p hp (I, o) (.head _) e.symm
            · exact gI p (List.mem_append_right _ hp)
      · rcases List.mem_append.mp hp with hp | hp
        · exact List.mem_append_left _ hp
        · exact List.mem_append_right _ (.tail _ hp)
  case done =>
    clear FF NN
    rintro m₁ news₁ h tk _ F₁ N₁
    exact k _ _ _ _ F₁ N₁
end
open PySem PySem.W PyProof.Rows PySem.Spec
set_option maxRecDepth 100000
def fnBody : Stmt → List Stmt | .FunctionDef _ _ b _ _ _ _ _ _ _ => b | _ => []
def fnScope : Stmt → Scope | .FunctionDef _ _ _ _ _ _ sc _ _ _ => sc | _ => default
def seenFn : Stmt := (PySem.Challenge.pw_no0415_01.main.body.reverse.drop 3).head!
def seenSc : Scope := fnScope seenFn
def seenFor : Stmt := ((fnBody seenFn).drop 1).head!
def seenBody (j : Nat) : Stmt := ((forBody seenFor).drop j).head!
theorem name_head {h₀ h : Heap} {L a : Addr} {o : Obj} {l : Led} (_ : News h₀ L h ((a, o) :: l)) : ∃ b, b = a := ⟨a, rfl⟩
def seenCore (ents : List Ent) (upto : Int) (u : Array UInt8) : List RowB :=
  match (ents.filter fun e => e.u == u && decide ((e.q : Int) ≤ upto)).head? with
  | some e => if e.k = 1 then [(u, e.v)] else []
  | none => []
set_option hygiene false in
local macro_rules | `(tactic| walk_at "mine stepsQ") => `(tactic| repeat' (first | ((fail_if_success (with_reducible show wpAny _ _ (execs R _) _ _ _)); (fail_if_success (with_reducible show wpAny _ _ (exec (PySem.Stmt.For _ _ _ _ _) _) _ _ _)); (fail_if_success (with_reducible show wpAny _ _ (pyIter _) _ _ _)); (fail_if_success (with_reducible show wpAny _ _ (exec (PySem.Stmt.Assign _ (PySem.Expr.ListComp _ _ _ _) _) _) _ _ _)); (fail_if_success (with_reducible show PyProof.Rows.LCt.CompSrcT _ _ _ _ _ _ _ _ _ _ _ _ _ _ _)); (fail_if_success (with_reducible show (if _ then _ else _))); (fail_if_success (with_reducible show wpAny _ _ (eval (PySem.Expr.ListComp _ _ _ _) _) _ _ _)); (fail_if_success (with_reducible show PyProof.Rows.LCg.CompSrc _ _ _ _ _ _ _ _ _ _ _ _ _ _)); (fail_if_success (with_reducible show PyProof.Rows.LCg.CompEnd _ _ _ _ _ _ _ _ _ _ _ _ _ _)); (fail_if_success (with_reducible show PyProof.Rows.LCt.CompSrcT _ _ _ _ _ _ _ _ _ _ _ _ _ _ _)); (first | (k_unfold; (try dsimp only)) | walk1 | (dsimp only; walk1) | (leave1; walk_say "STEP leave1"; (try dsimp only)) | fail "no step"))))
set_option hygiene false in
local macro_rules | `(tactic| walk_at "mine stepsP") => `(tactic| repeat' (first | ((fail_if_success (with_reducible show wpAny _ _ (execs R _) _ _ _)); (first | (k_unfold; (try dsimp only)) | walk1 | (dsimp only; walk1) | (leave1; walk_say "STEP leave1"; (try dsimp only)) | fail "no step"))))
set_option hygiene false in
local macro_rules | `(tactic| walk_at "mine openS") => `(tactic| ((conv in (occs := *) seenSc => all_goals whnf); (conv in (seenBody _) => whnf); (conv in (seenBody _) => whnf)))
section
variable {w : World} {dp un : Nat} {gd : Option (List Code)} {cn : Str} {cs : Scope} {a : Addr} {ccd : Value} {cl : List (Str × Addr)} {outer : List Env} {A₀ : Around} {base h₀ : Heap} {L : Addr} {m mg mb : Str → Option Value} {mean : ExcName → Option Value} {s : Shared} {rest : Led}
  {Q : Flow → Shared → Prop} {E : Value → Shared → Prop} {g' : Heap} {L' : Addr} {el rl : Addr} {vs rvs : Array Value} {n rn : Nat} {ents : List Ent} {upto : Int} {tu t : Tok} {u : Array UInt8} {led : Led} {oB oc : Obj} {R : List Stmt}
set_option maxHeartbeats 8000000 in
theorem seenB (F : Fr g' L' s.heap m) (X : (Mine.hd.heap_39 w.params).In g') (N : News g' L' s.heap ((rl, listOf rvs rn) :: led)) (T : Top VW (looseW VW []) mean mg mb g') (hk : cs.kind = .function) (hd : dp + 4 < recursionLimit) (hu : un + 32 < cLine)
    (e1 : m "entries" = some (.ref el)) (e2 : m "rows" = some (.ref rl)) (dU : oc.data = .cell (some (.bytes u t))) (hcU : (L' + 1 + 1, oc) ∈ led) (dB : oB.data = .cell (some (.int upto tu))) (hcB : (L' + 1, oB) ∈ led) (hl : (el, listOf vs n) ∈ led) (he : EntsIn led vs ents) (hsz : ents.length ≤ 5) (hrl : ∀ p ∈ led, p.1 ≠ rl) (hrz : rvs.size ≤ 4)
    (k : (seenCore ents upto u = [] → ∀ m' h' tk', (∀ y : Str, y ≠ "mine" → m' y = m y) → Fr g' L' h' m' → News g' L' h' ((rl, listOf rvs rn) :: led) → wpAny (model Challenge.rw_no0415_01.row.prog w) ((ktrTop dp un gd cn cs L a ccd cl outer).deeper (envOfC (Str.ofString "_law_seen") seenSc L' 669 (.ref 668))) (execs (R) (envOfC (Str.ofString "_law_seen") seenSc L' 669 (.ref 668))) Q E { s with heap := h', toks := tk' }) ∧ ∀ v ae t1 t2 nn rn' m' h' tk', seenCore ents upto u = [(u, v)] → (∀ y : Str, y ≠ "mine" → m' y = m y) → (∀ p ∈ led, p.1 ≠ ae) → @Ne Nat ae rl → Fr g' L' h' m' → News g' L' h' ((rl, listOf (rvs.push (.ref ae)) rn') :: (ae, tupObj [.bytes u t1, .bytes v t2] nn) :: led) → wpAny (model Challenge.rw_no0415_01.row.prog w) ((ktrTop dp un gd cn cs L a ccd cl outer).deeper (envOfC (Str.ofString "_law_seen") seenSc L' 669 (.ref 668))) (execs (R) (envOfC (Str.ofString "_law_seen") seenSc L' 669 (.ref 668))) Q E { s with heap := h', toks := tk' }) :
    wpAny (model Challenge.rw_no0415_01.row.prog w) ((ktrTop dp un gd cn cs L a ccd cl outer).deeper (envOfC (Str.ofString "_law_seen") seenSc L' 669 (.ref 668))) (execs (seenBody 2 :: seenBody 3 :: R) (envOfC (Str.ofString "_law_seen") seenSc L' 669 (.ref 668))) Q E s := by
  walk_at "mine openS"
  (have X1 := X; revert X1; k_fill; intro X1)
  walk_at "mine stepsQ"
  rename Fr _ _ _ _ => FF
  rename News _ _ _ _ => NN
  refine' PyProof.Rows.LCt.Assign_ListComp_T (F₀ := FF) rfl (by with_unfolding_all rfl) (by with_unfolding_all rfl) (by decide) (by rfl) (by decide) (by rfl) (by rfl) (by rfl) ?_
  walk_at "mine stepsQ"
  rename Fr _ _ _ _ => FF
  rename News _ _ _ _ => NN
  have hez := he.size
  refine PyProof.Rows.LCt.CompSrcT.ledger (its := vs) (k := n) rfl FF NN (.tail _ hl) (by rw [sizeLine_eq]; omega) fun g => ?_
  refine compRestT_inv (fun i ys nw => (∀ p ∈ (rl, listOf rvs rn) :: led, p ∈ nw) ∧ EntsIn led ys.toArray ((ents.take i).filter fun e => e.u == u && decide ((e.q : Int) ≤ upto))) vs.size ?step ?fin _ 0 [] _ (Nat.zero_add _) ⟨fun p hp => hp, EntsIn.nil⟩
  case step =>
    rintro i ys nw v I oI C oK D9 m₂ h tk E' hi ⟨g1, g2⟩ hP hNs hx FF NN hO ⟨n1, n2, n3⟩
    obtain ⟨e9, he9⟩ : ∃ e, ents[i]? = some e := ⟨_, List.getElem?_eq_getElem (by omega)⟩
    obtain ⟨aa, xs, kx, hv, hxm, hxf⟩ := he.at' i e9 he9
    rw [hv] at hP
    cases hP
    have hxf0 := hxf
    obtain ⟨y1, y2, y3, y4, y5, rfl⟩ := FAll_ent hxf
    have hxm2 := g1 _ (.tail _ hxm)
    have hcU2 := g1 _ (.tail _ hcU)
    have hcB2 := g1 _ (.tail _ hcB)
    have htk : ents.take (i + 1) = ents.take i ++ [e9] := by rw [List.take_add_one, he9]; rfl
    have hstep : ∀ b : Bool, (e9.u == u && decide ((e9.q : Int) ≤ upto)) = b → (ents.take (i + 1)).filter (fun e => e.u == u && decide ((e.q : Int) ≤ upto)) = (ents.take i).filter (fun e => e.u == u && decide ((e.q : Int) ≤ upto)) ++ (if b = true then [e9] else []) := fun b hb => by
      rw [htk, List.filter_append]
      congr 1
      cases b with
      | true => rw [List.filter_cons_of_pos (by exact hb)]; rfl
      | false => rw [List.filter_cons_of_neg (by rw [hb]; decide)]; rfl
    walk_at "mine stepsQ"
    rename Fr _ _ _ _ => F2
    rename News _ _ _ _ => N2
    by_cases hu9 : e9.u = u
    · rw [if_pos (by rw [hu9]; simp)]
      walk_at "mine stepsQ"
      rename Fr _ _ _ _ => F3
      rename News _ _ _ _ => N3
      by_cases hq9 : (e9.q : Int) ≤ upto
      · rw [if_pos (by rw [decide_eq_true_eq]; omega)]
        walk_at "mine stepsQ"
        rename Fr _ _ _ _ => F4
        rename News _ _ _ _ => N4
        rw [if_pos rfl]
        walk_at "mine stepsQ"
        rename Fr _ _ _ _ => F4
        rename News _ _ _ _ => N4
        refine PyProof.Rows.LCg.CompEnd.intro F4 N4 nw (fun p hp => hp) hO (.inr ⟨_, g1 _ (.tail _ hl), rfl, _, rfl⟩) ⟨g1, ?_⟩
        rw [hstep true (by simp [hu9, hq9]), if_pos rfl, ← List.push_toArray]
        exact g2.push hxm hxf0
      · rw [if_neg (by rw [decide_eq_true_eq]; omega)]
        rw [if_neg (by decide)]
        refine PyProof.Rows.LCg.CompEnd.intro F3 N3 nw (fun p hp => hp) hO (.inr ⟨_, g1 _ (.tail _ hl), rfl, _, rfl⟩) ⟨g1, ?_⟩
        rw [hstep false (by simp [hq9]), if_neg (by decide), List.append_nil]
        exact g2
    · rw [if_neg (by simpa using hu9)]
      walk_at "mine stepsQ"
      rename Fr _ _ _ _ => F3
      rename News _ _ _ _ => N3
      rw [if_neg (by decide)]
      refine PyProof.Rows.LCg.CompEnd.intro F3 N3 nw (fun p hp => hp) hO (.inr ⟨_, g1 _ (.tail _ hl), rfl, _, rfl⟩) ⟨g1, ?_⟩
      rw [hstep false (by simp [hu9]), if_neg (by decide), List.append_nil]
      exact g2
  case fin =>
    clear FF NN
    rintro ys nw ⟨g1, g2⟩
    unfold PyProof.Rows.LCg.FinA
    intro D h tk FF NN hO
    have hall : ents.take vs.size = ents := List.take_of_length_le (by omega)
    rw [hall] at g2
    have N3 := news_of NN (b := (D, PyProof.Rows.LCg.lst ys) :: (rl, listOf rvs rn) :: led) fun p hp => by
      rcases List.mem_cons.mp hp with rfl | hp
      · exact .head _
      · exact .tail _ (g1 _ hp)
    have hDl : ∀ q ∈ led, @Ne Nat q.1 D := fun q hq => off1_mem hO _ (g1 _ (.tail _ hq))
    have hDr : @Ne Nat rl D := off1_mem hO _ (g1 _ (.head _))
    clear NN
    cases hf : ents.filter fun e => e.u == u && decide ((e.q : Int) ≤ upto) with
    | nil =>
      rw [hf] at g2
      have hyz : ys.toArray.size = 0 := g2.size
      have hcore : seenCore ents upto u = [] := by unfold seenCore; rw [hf]; rfl
      walk_at "mine stepsP"
      rename Fr _ _ _ _ => F4
      rename News _ _ _ _ => N4
      exact k.1 hcore _ _ _ (fun y hy => by simp only [if_neg hy]) F4 (news_of N4 fun p hp => .tail _ hp)
    | cons e fr =>
      rw [hf] at g2
      have hyz : ys.toArray.size = fr.length + 1 := g2.size
      have hfz : fr.length + 1 ≤ 5 := by
        have := List.length_filter_le (fun e => e.u == u && decide ((e.q : Int) ≤ upto)) ents
        rw [hf] at this
        simp only [List.length_cons] at this
        omega
      obtain ⟨aa, xs, kx, hv, hxm, hxf⟩ := g2.at' 0 e rfl
      have hv' : ys.toArray[(0 : Int).toNat]? = some (.ref aa) := hv
      obtain ⟨y1, y2, y3, y4, y5, rfl⟩ := FAll_ent hxf
      walk_at "mine stepsP"
      rename Fr _ _ _ _ => F4
      rename News _ _ _ _ => N4
      refine Mine.item_list (items := ys.toArray) (n := ys.length) N4 (.head _) (by decide) (by decide) hv' ?_
      have e2' : (fun z => if z = Str.ofString "mine" then some (Value.ref D) else m z) (Str.ofString "rows") = some (.ref rl) := e2
      walk_at "mine stepsP"
      · rename Fr _ _ _ _ => F5
        rename News _ _ _ _ => N5
        refine nameX_L F5 e2' ?_ rfl rfl
        walk_at "mine stepsP"
        rename Fr _ _ _ _ => F6
        rename News _ _ _ _ => N6
        refine Mine.item_list (items := ys.toArray) (n := ys.length) N6 (.head _) (by decide) (by decide) hv' ?_
        walk_at "mine stepsP"
        rename Fr _ _ _ _ => F7
        rename News _ _ _ _ => N7
        obtain ⟨ae, hae⟩ := name_head N7
        subst hae
        rename _ < _ ∧ _ < _ ∧ AllLt _ led => l9
        rename _ = (-1 : Int) => hk9
        have hcore : seenCore ents upto u = [(u, e.v)] := by
          unfold seenCore
          rw [hf]
          simp only [List.head?_cons]
          rw [if_pos (by omega)]
        refine k.2 e.v ae t y5 0 (rn + 1) _ _ _ hcore (fun y hy => by simp only [if_neg hy]) (fun q hq => Nat.ne_of_lt (allLt_mem l9.2.2 q hq)) (Nat.ne_of_lt l9.2.1).symm F7 (news_of N7 fun p hp => ?_)
        · rcases List.mem_cons.mp hp with rfl | hp
          · exact .tail _ (.tail _ (.head _))
          · rcases List.mem_cons.mp hp with rfl | hp
            · exact .head _
            · exact .tail _ (.tail _ (.tail _ hp))
      · rename Fr _ _ _ _ => F5
        rename News _ _ _ _ => N5
        rename _ ≠ _ => hk9
        have hcore : seenCore ents upto u = [] := by
          unfold seenCore
          rw [hf]
          simp only [List.head?_cons]
          rw [if_neg (by omega)]
        exact k.1 hcore _ _ _ (fun y hy => by simp only [if_neg hy]) F5 (news_of N5 fun p hp => .tail _ hp)
end
open PySem PySem.W PyProof.Rows PySem.Spec
set_option maxRecDepth 100000
set_option hygiene false in
local macro_rules | `(tactic| walk_at "mine stepsF") => `(tactic| repeat' (first | ((fail_if_success (with_reducible show wpAny _ _ (execs R _) _ _ _)); (fail_if_success (with_reducible show wpAny _ _ (exec (PySem.Stmt.For _ _ _ _ _) _) _ _ _)); (fail_if_success (with_reducible show wpAny _ _ (pyIter _) _ _ _)); (fail_if_success (with_reducible show wpAny _ _ (execs (PySem.Stmt.Assign _ (PySem.Expr.ListComp _ _ _ _) _ :: _) _) _ _ _)); (first | (k_unfold; (try dsimp only)) | walk1 | (dsimp only; walk1) | (leave1; walk_say "STEP leave1"; (try dsimp only)) | fail "no step"))))
set_option hygiene false in
local macro_rules | `(tactic| walk_at "mine beginC") => `(tactic| (have X1 := X; revert X1; k_fill; intro X1; refine wpAny_call ?_; k_dflt (refine' code_defC ?k1 ?k2 ?k3 ?k4 ?k5 ?kA ?kF ?kK ?k6 ?k7 ?k8 ?k9 ?kB ?kD ?_ ?c2 ?c3 ?c4; (case kA => exact rfl); (case kF => exact rfl); (case kK => assumption); (case k1 => k_asm); (case k2 => k_asm); (case k3 => exact X1); (case k4 => k_asm); (case k5 => k_asm); (case k6 => k_is); (case k7 => k_is); (case k8 => ktr_room); (case k9 => exact BindsTo.of_eq rfl); (case kB => exact rfl); (case kD => decide +kernel); (case c2 => exact rfl); (case c3 => exact rfl); (case c4 => exact rfl); k_whole; intro g' L' h' tk' cells' FG' F' N' Y' B' X' T' l1; (have hY := CellsAre.two Y'; obtain ⟨oA, oB, hE', dA, dB⟩ := hY; subst hE'; clear Y'); (try simp only [List.cons_append, List.nil_append] at N'); (try dsimp only); (try k_fold))))
theorem seenOne_eq {ents : List Ent} {upto : Int} {lo hi : Option (Array UInt8)} {u : Array UInt8} (h1 : underLo lo u = false) (h2 : pastHi hi u = false) : seenOne ents upto lo hi u = seenCore ents upto u := by
  unfold seenOne seenCore
  rw [h1, h2]
  simp only [Bool.false_eq_true, if_false]
  generalize (List.filter (fun e => e.u == u && decide ((e.q : Int) ≤ upto)) ents).head? = x
  cases x <;> rfl
theorem reord {h₀ h : Heap} {L : Addr} {a b c d : Addr × Obj} {l : Led} (N : News h₀ L h (a :: b :: c :: d :: l)) : News h₀ L h (c :: a :: b :: d :: l) := news_of N fun p hp => by
  rcases List.mem_cons.mp hp with rfl | hp
  · exact .tail _ (.tail _ (.head _))
  · rcases List.mem_cons.mp hp with rfl | hp
    · exact .head _
    · rcases List.mem_cons.mp hp with rfl | hp
      · exact .tail _ (.head _)
      · exact .tail _ (.tail _ (.tail _ hp))
theorem TurnC.next {h₀ h' : Heap} {L c : Addr} {own : Led} {J : (Str → Option Value) → Led → Prop} {I : Addr} {o oc : Obj} {s : Shared} {Q : Flow → Shared → Prop} {f : Flow} {m' : Str → Option Value} {news' led : Led} {tk' : Nat} {v : Option Value}
    (hf : f = .next ∨ f = .cont) (F : Fr h₀ L h' m') (N : News h₀ L h' led) (hI : (I, o) ∈ led) (hc : (c, oc) ∈ led) (hd : oc.data = .cell v) (ho : ∀ p ∈ own, p ∈ led) (hs : ∀ p ∈ news', p ∈ led) (hne : ∀ p ∈ news', p.1 ≠ I ∧ p.1 ≠ c) (hj : J m' news') : TurnC h₀ L c own J I o s Q f { s with heap := h', toks := tk' } := by
  rcases hf with rfl | rfl <;> exact ⟨h', tk', m', news', led, oc, v, rfl, F, N, hI, hc, hd, ho, hs, hne, hj⟩
theorem reord2 {h₀ h : Heap} {L : Addr} {a b c d : Addr × Obj} {l : Led} (N : News h₀ L h (a :: b :: ([c] ++ d :: l))) : News h₀ L h (d :: a :: b :: c :: l) := news_of N fun p hp => by
  rcases List.mem_cons.mp hp with rfl | hp
  · exact .tail _ (.tail _ (.tail _ (.head _)))
  · rcases List.mem_cons.mp hp with rfl | hp
    · exact .head _
    · rcases List.mem_cons.mp hp with rfl | hp
      · exact .tail _ (.head _)
      · rcases List.mem_cons.mp hp with rfl | hp
        · exact .tail _ (.tail _ (.head _))
        · exact .tail _ (.tail _ (.tail _ (.tail _ hp)))
theorem seenOne_lo {ents : List Ent} {upto : Int} {lo hi : Option (Array UInt8)} {u : Array UInt8} (h1 : underLo lo u = true) : seenOne ents upto lo hi u = [] := by
  unfold seenOne
  rw [if_pos h1]
theorem seenOne_hi {ents : List Ent} {upto : Int} {lo hi : Option (Array UInt8)} {u : Array UInt8} (h1 : underLo lo u = false) (h2 : pastHi hi u = true) : seenOne ents upto lo hi u = [] := by
  unfold seenOne
  rw [h1, h2]
  rfl
structure SeenIn (rest : Led) (rl cU cB : Addr) (rows : List RowB) (rvs : Array Value) (nw : Led) : Prop where
  new : ∀ p ∈ nw, ∀ q ∈ rest, q.1 ≠ p.1
  off : ∀ p ∈ nw ++ rest, p.1 ≠ rl ∧ p.1 ≠ cU ∧ p.1 ≠ cB
  size : rvs.size = rows.length
  row : ∀ (i : Nat) (k v : Array UInt8), rows[i]? = some (k, v) → ∃ a t1 t2 n', rvs[i]? = some (.ref a) ∧ (a, tupObj [.bytes k t1, .bytes v t2] n') ∈ nw
theorem SeenIn.more {rest nw : Led} {rl cU cB : Addr} {rows : List RowB} {rvs : Array Value} {k v : Array UInt8} {a : Addr} {t1 t2 : Tok} {n : Nat} (h : SeenIn rest rl cU cB rows rvs nw) (hn : ∀ q ∈ rest, q.1 ≠ a) (ho : a ≠ rl ∧ a ≠ cU ∧ a ≠ cB) :
    SeenIn rest rl cU cB (rows ++ [(k, v)]) (rvs.push (.ref a)) ((a, tupObj [.bytes k t1, .bytes v t2] n) :: nw) := by
  have hz := h.size
  refine ⟨fun p hp => ?_, fun p hp => ?_, by simp [hz], fun i k' v' hi => ?_⟩
  · rcases List.mem_cons.mp hp with rfl | hp
    · exact hn
    · exact h.new p hp
  · rcases List.mem_cons.mp hp with rfl | hp
    · exact ho
    · exact h.off p hp
  by_cases hlt : i < rows.length
  · rw [List.getElem?_append_left hlt] at hi
    obtain ⟨a', s1, s2, n', g1, g2⟩ := h.row i k' v' hi
    exact ⟨a', s1, s2, n', by rw [Array.getElem?_push_lt (by omega), ← g1, Array.getElem?_eq_getElem (by omega)], .tail _ g2⟩
  · rw [List.getElem?_append_right (by omega)] at hi
    have h0 : i - rows.length = 0 := by
      by_cases h0 : i - rows.length = 0
      · exact h0
      · rw [List.getElem?_eq_none (by simp; omega)] at hi; cases hi
    rw [h0] at hi
    cases hi
    have : i = rvs.size := by omega
    subst this
    exact ⟨a, t1, t2, n, by simp, .head _⟩
theorem users_at {t1 t2 t3 t4 : Tok} {i : Nat} {v : Value} (h : (#[Value.bytes #[] t1, Value.bytes #[97] t2, Value.bytes #[97, 0] t3, Value.bytes #[98] t4] : Array Value)[i]? = some v) : ∃ u t, v = .bytes u t ∧ usersL[i]? = some u := by
  match i, h with
  | 0, h => cases h; exact ⟨_, _, rfl, rfl⟩
  | 1, h => cases h; exact ⟨_, _, rfl, rfl⟩
  | 2, h => cases h; exact ⟨_, _, rfl, rfl⟩
  | 3, h => cases h; exact ⟨_, _, rfl, rfl⟩
  | n + 4, h => simp at h
theorem flat_next {f : Array UInt8 → List RowB} {i : Nat} {u : Array UInt8} (h : usersL[i]? = some u) : (usersL.take (i + 1)).flatMap f = (usersL.take i).flatMap f ++ f u := by
  rw [List.take_add_one, h, List.flatMap_append]
  simp
theorem flat_size {ents : List Ent} {upto : Int} {lo hi : Option (Array UInt8)} : ∀ (us : List (Array UInt8)), (us.flatMap (seenOne ents upto lo hi)).length ≤ us.length
  | [] => Nat.le_refl _
  | u :: us => by
    rw [List.flatMap_cons, List.length_append, List.length_cons]
    have := flat_size (ents := ents) (upto := upto) (lo := lo) (hi := hi) us
    have h1 : (seenOne ents upto lo hi u).length ≤ 1 := by
      unfold seenOne
      split
      · exact Nat.zero_le _
      · split
        · exact Nat.zero_le _
        · split
          · split
            · exact Nat.le_refl _
            · exact Nat.zero_le _
          · exact Nat.zero_le _
    omega
section
variable {w : World} {dp un : Nat} {gd : Option (List Code)} {cn : Str} {cs : Scope} {a : Addr} {ccd : Value} {cl : List (Str × Addr)} {outer : List Env} {A₀ : Around} {base h₀ : Heap} {L : Addr} {m mg mb : Str → Option Value} {mean : ExcName → Option Value} {s : Shared} {rest : Led}
  {Q E : Value → Shared → Prop} {el : Addr} {vs : Array Value} {n : Nat} {ents : List Ent} {upto : Int} {tu tl9 th9 : Tok} {lo hi : Option (Array UInt8)}
set_option maxRecDepth 100000 in
set_option maxHeartbeats 8000000 in
theorem seen_r  (B : Below A₀ base outer h₀) (F : Fr h₀ L s.heap m) (X : (Mine.hd.heap_39 w.params).In h₀) (N : News h₀ L s.heap (rest)) (T : Top VW (looseW VW []) mean mg mb h₀) (hk : cs.kind = .function) (hd : dp + 6 < recursionLimit) (hu : un + 48 < cLine)
    (hl : (el, listOf vs n) ∈ rest) (he : EntsIn rest vs ents) (hsz : ents.length ≤ 5) (k : ∀ rl rvs rn nw h' tk', Fr h₀ L h' m → News h₀ L h' ((rl, listOf rvs rn) :: (nw ++ rest)) → (∀ q ∈ rest, q.1 ≠ rl) → (∀ p ∈ nw, ∀ q ∈ rest, q.1 ≠ p.1) → RowsL ((rl, listOf rvs rn) :: nw) rl (usersL.flatMap (seenOne ents upto lo hi)) rvs rn → Q (.ref rl) { s with heap := h', toks := tk' }) :
    wpAny (model Challenge.rw_no0415_01.row.prog w) (ktrTop dp un gd cn cs L a ccd cl outer) (call (.ref 669) [.ref el, .int upto tu, bndV lo tl9, bndV hi th9]) Q E s := by
  walk_at "mine beginC"
  have dB2 : oB.data = .cell (some (.int upto tu)) := dB
  have dA2 : oA.data = .cell none := dA
  clear dA dB
  walk_at "mine stepsF"
  rename Fr _ _ _ _ => FF
  rename News _ _ _ _ => NN
  rename _ < _ ∧ _ < _ ∧ AllLt _ rest => l2
  obtain ⟨rl, hrl⟩ := name_head NN
  subst hrl
  refine' For_C (c := L' + 1 + 1) g' rfl rfl rfl ?_
  walk_at "mine stepsF"
  rename Fr _ _ _ _ => FF
  rename News _ _ _ _ => NN
  rename _ < _ ∧ _ < _ ∧ _ < _ ∧ AllLt _ rest => l3
  obtain ⟨ul, hul⟩ := name_head NN
  subst hul
  refine iter_listC (c := L' + 1 + 1) (fun i m₁ news₁ => m₁ "rows" = some (.ref rl) ∧ m₁ "low" = some (bndV lo tl9) ∧ m₁ "high" = some (bndV hi th9) ∧ m₁ "entries" = some (.ref el) ∧ ∃ rvs rn tl, news₁ = (rl, listOf rvs rn) :: (L' + 1, oB) :: (tl ++ rest) ∧ SeenIn rest rl (L' + 1 + 1) (L' + 1) ((usersL.take i).flatMap (seenOne ents upto lo hi)) rvs tl) rfl FF (reord NN) dA2 ?hlc ?hne ⟨rfl, rfl, rfl, rfl, #[], _, [], rfl, fun p hp => (nomatch hp), fun p hp => ?hoff, rfl, fun i k v hi => ?hrow⟩ ?turn ?done
  case hlc => exact Nat.ne_of_gt l3.2.1
  case hne =>
    intro p hp
    rcases List.mem_cons.mp hp with rfl | hp
    · exact Nat.ne_of_gt l2.1
    · rcases List.mem_cons.mp hp with rfl | hp
      · exact Nat.ne_of_lt (Nat.lt_succ_self _)
      · exact Nat.ne_of_lt (Nat.lt_trans (l1 p hp) (Nat.lt_trans (Nat.lt_succ_self _) (Nat.lt_succ_self _)))
  case hoff => exact ⟨Nat.ne_of_lt (allLt_mem l2.2.2 p hp), Nat.ne_of_lt (Nat.lt_trans (l1 p hp) (Nat.lt_trans (Nat.lt_succ_self _) (Nat.lt_succ_self _))), Nat.ne_of_lt (Nat.lt_trans (l1 p hp) (Nat.lt_succ_self _))⟩
  case hrow => simp at hi
  case turn =>
    clear FF NN
    rintro i v m₁ news₁ h tk I o oc hv ⟨r1, r2, r3, r4, rvs, rn, tl, rfl, J⟩ hne hcI hoc F₁ N₁
    obtain ⟨u, t, rfl, hu⟩ := users_at hv
    have hfl := flat_next (f := seenOne ents upto lo hi) hu
    have N5 := reord2 N₁
    clear N₁
    have hrz : rvs.size ≤ 4 := by
      have h1 := J.size
      have h2 := flat_size (ents := ents) (upto := upto) (lo := lo) (hi := hi) (usersL.take i)
      have h3 : (usersL.take i).length ≤ 4 := by rw [List.length_take]; exact Nat.min_le_right _ _
      omega
    have hI1 : @Ne Nat rl I := (hne _ (.head _)).1
    have hI2 : @Ne Nat rl (L' + 1 + 1) := (hne _ (.head _)).2
    have hI3 : @Ne Nat (L' + 1) I := (hne _ (.tail _ (.head _))).1
    have hr1 : @Ne Nat (L' + 1) rl := Nat.ne_of_lt l2.2.1
    have hur : @Ne Nat ul rl := Nat.ne_of_gt l3.1
    have hoff5 : ∀ (o9 : Obj), ∀ p ∈ (I, o) :: (L' + 1 + 1, oc) :: (ul, o9) :: (L' + 1, oB) :: (tl ++ rest), p.1 ≠ rl := fun o9 p hp => by
      rcases List.mem_cons.mp hp with rfl | hp
      · exact fun e => hI1 e.symm
      · rcases List.mem_cons.mp hp with rfl | hp
        · exact fun e => hI2 e.symm
        · rcases List.mem_cons.mp hp with rfl | hp
          · exact hur
          · rcases List.mem_cons.mp hp with rfl | hp
            · exact hr1
            · exact (J.off p hp).1
    cases lo with
    | none =>
      cases hi with
      | none =>
        skip
        · skip
          unfold bndV at r2 r3
          dsimp only at r2 r3
          walk_at "mine stepsF"
          · skip
            skip
            have q2 : m₁ "low" = some (bndV none tl9) := r2
            have q3 : m₁ "high" = some (bndV none th9) := r3
            have hlow : underLo none u = false := by first | rfl | (show ltB u bl = false; first | assumption | (simp_all; done))
            have hhigh : pastHi none u = false := by first | rfl | (show (!ltB u bh) = false; first | assumption | (simp_all; done))
            rw [seenOne_eq hlow hhigh] at hfl
            refine seenB (el := el) (rl := rl) (u := u) (t := t) (upto := upto) (tu := tu) (oB := oB) (oc := oc) (ents := ents) F₁ X' N5 T' hk (by omega) (by omega) r4 r1 hoc (.tail _ (.head _)) dB2 (.tail _ (.tail _ (.tail _ (.head _)))) (.tail _ (.tail _ (.tail _ (.tail _ (List.mem_append_right _ hl))))) (he.mono fun p hp => .tail _ (.tail _ (.tail _ (.tail _ (List.mem_append_right _ hp))))) hsz (hoff5 _) hrz ⟨fun hc0 m' h' tk' hm' F9 N9 => ?_, fun v ae t1 t2 nn rn' m' h' tk' hc0 hm' hae haer F9 N9 => ?_⟩
            · refine wpAny_execs_nil ?_
              refine TurnC.next (news' := (rl, listOf rvs rn) :: (L' + 1, oB) :: (tl ++ rest)) (.inl rfl) F9 N9 (.tail _ (.head _)) (.tail _ (.tail _ (.head _))) hoc (fun p hp => ?_) (fun p hp => ?_) hne ⟨(hm' "rows" (by decide)).trans r1, (hm' "low" (by decide)).trans q2, (hm' "high" (by decide)).trans q3, (hm' "entries" (by decide)).trans r4, rvs, rn, tl, rfl, ?_⟩
              · rw [List.mem_singleton.mp hp]
                exact .tail _ (.tail _ (.tail _ (.head _)))
              · rcases List.mem_cons.mp hp with rfl | hp
                · exact .head _
                · exact .tail _ (.tail _ (.tail _ (.tail _ hp)))
              · rw [hfl, hc0, List.append_nil]
                exact J
            · refine wpAny_execs_nil ?_
              have a1 := hae _ (.head _)
              have a2 := hae _ (.tail _ (.head _))
              have a4 := hae _ (.tail _ (.tail _ (.tail _ (.head _))))
              have a5 : ∀ p ∈ tl ++ rest, p.1 ≠ ae := fun p hp => hae p (.tail _ (.tail _ (.tail _ (.tail _ hp))))
              refine TurnC.next (news' := (rl, listOf (rvs.push (.ref ae)) rn') :: (L' + 1, oB) :: (((ae, tupObj [.bytes u t1, .bytes v t2] nn) :: tl) ++ rest)) (.inl rfl) F9 N9 (.tail _ (.tail _ (.head _))) (.tail _ (.tail _ (.tail _ (.head _)))) hoc (fun p hp => ?_) (fun p hp => ?_) (fun p hp => ?_) ⟨(hm' "rows" (by decide)).trans r1, (hm' "low" (by decide)).trans q2, (hm' "high" (by decide)).trans q3, (hm' "entries" (by decide)).trans r4, _, rn', _, rfl, ?_⟩
              · rw [List.mem_singleton.mp hp]
                exact .tail _ (.tail _ (.tail _ (.tail _ (.head _))))
              · rcases List.mem_cons.mp hp with rfl | hp
                · exact .head _
                · rcases List.mem_cons.mp hp with rfl | hp
                  · exact .tail _ (.tail _ (.tail _ (.tail _ (.tail _ (.head _)))))
                  · rcases List.mem_cons.mp hp with rfl | hp
                    · exact .tail _ (.head _)
                    · exact .tail _ (.tail _ (.tail _ (.tail _ (.tail _ (.tail _ hp)))))
              · rcases List.mem_cons.mp hp with rfl | hp
                · exact ⟨hI1, hI2⟩
                · rcases List.mem_cons.mp hp with rfl | hp
                  · exact hne _ (.tail _ (.head _))
                  · rcases List.mem_cons.mp hp with rfl | hp
                    · exact ⟨fun e => a1 e.symm, fun e => a2 e.symm⟩
                    · exact hne p (.tail _ (.tail _ hp))
              · rw [hfl, hc0]
                exact J.more (fun q hq => a5 q (List.mem_append_right _ hq)) ⟨haer, fun e => a2 e.symm, fun e => a4 e.symm⟩
      | some bh =>
        skip
        · skip
          unfold bndV at r2 r3
          dsimp only at r2 r3
          walk_at "mine stepsF"
          · skip
            skip
            have q2 : m₁ "low" = some (bndV none tl9) := r2
            have q3 : m₁ "high" = some (bndV (some bh) th9) := r3
            have hlow : underLo none u = false := by first | rfl | (show ltB u bl = false; first | assumption | (simp_all; done))
            have hhigh : pastHi (some bh) u = false := by first | rfl | (show (!ltB u bh) = false; first | assumption | (simp_all; done))
            rw [seenOne_eq hlow hhigh] at hfl
            refine seenB (el := el) (rl := rl) (u := u) (t := t) (upto := upto) (tu := tu) (oB := oB) (oc := oc) (ents := ents) F₁ X' N5 T' hk (by omega) (by omega) r4 r1 hoc (.tail _ (.head _)) dB2 (.tail _ (.tail _ (.tail _ (.head _)))) (.tail _ (.tail _ (.tail _ (.tail _ (List.mem_append_right _ hl))))) (he.mono fun p hp => .tail _ (.tail _ (.tail _ (.tail _ (List.mem_append_right _ hp))))) hsz (hoff5 _) hrz ⟨fun hc0 m' h' tk' hm' F9 N9 => ?_, fun v ae t1 t2 nn rn' m' h' tk' hc0 hm' hae haer F9 N9 => ?_⟩
            · refine wpAny_execs_nil ?_
              refine TurnC.next (news' := (rl, listOf rvs rn) :: (L' + 1, oB) :: (tl ++ rest)) (.inl rfl) F9 N9 (.tail _ (.head _)) (.tail _ (.tail _ (.head _))) hoc (fun p hp => ?_) (fun p hp => ?_) hne ⟨(hm' "rows" (by decide)).trans r1, (hm' "low" (by decide)).trans q2, (hm' "high" (by decide)).trans q3, (hm' "entries" (by decide)).trans r4, rvs, rn, tl, rfl, ?_⟩
              · rw [List.mem_singleton.mp hp]
                exact .tail _ (.tail _ (.tail _ (.head _)))
              · rcases List.mem_cons.mp hp with rfl | hp
                · exact .head _
                · exact .tail _ (.tail _ (.tail _ (.tail _ hp)))
              · rw [hfl, hc0, List.append_nil]
                exact J
            · refine wpAny_execs_nil ?_
              have a1 := hae _ (.head _)
              have a2 := hae _ (.tail _ (.head _))
              have a4 := hae _ (.tail _ (.tail _ (.tail _ (.head _))))
              have a5 : ∀ p ∈ tl ++ rest, p.1 ≠ ae := fun p hp => hae p (.tail _ (.tail _ (.tail _ (.tail _ hp))))
              refine TurnC.next (news' := (rl, listOf (rvs.push (.ref ae)) rn') :: (L' + 1, oB) :: (((ae, tupObj [.bytes u t1, .bytes v t2] nn) :: tl) ++ rest)) (.inl rfl) F9 N9 (.tail _ (.tail _ (.head _))) (.tail _ (.tail _ (.tail _ (.head _)))) hoc (fun p hp => ?_) (fun p hp => ?_) (fun p hp => ?_) ⟨(hm' "rows" (by decide)).trans r1, (hm' "low" (by decide)).trans q2, (hm' "high" (by decide)).trans q3, (hm' "entries" (by decide)).trans r4, _, rn', _, rfl, ?_⟩
              · rw [List.mem_singleton.mp hp]
                exact .tail _ (.tail _ (.tail _ (.tail _ (.head _))))
              · rcases List.mem_cons.mp hp with rfl | hp
                · exact .head _
                · rcases List.mem_cons.mp hp with rfl | hp
                  · exact .tail _ (.tail _ (.tail _ (.tail _ (.tail _ (.head _)))))
                  · rcases List.mem_cons.mp hp with rfl | hp
                    · exact .tail _ (.head _)
                    · exact .tail _ (.tail _ (.tail _ (.tail _ (.tail _ (.tail _ hp)))))
              · rcases List.mem_cons.mp hp with rfl | hp
                · exact ⟨hI1, hI2⟩
                · rcases List.mem_cons.mp hp with rfl | hp
                  · exact hne _ (.tail _ (.head _))
                  · rcases List.mem_cons.mp hp with rfl | hp
                    · exact ⟨fun e => a1 e.symm, fun e => a2 e.symm⟩
                    · exact hne p (.tail _ (.tail _ hp))
              · rw [hfl, hc0]
                exact J.more (fun q hq => a5 q (List.mem_append_right _ hq)) ⟨haer, fun e => a2 e.symm, fun e => a4 e.symm⟩
          · skip
            skip
            have q2 : m₁ "low" = some (bndV none tl9) := r2
            have q3 : m₁ "high" = some (bndV (some bh) th9) := r3
            refine TurnC.next (news' := (rl, listOf rvs rn) :: (L' + 1, oB) :: (tl ++ rest)) (.inr rfl) F₁ N5 (.tail _ (.head _)) (.tail _ (.tail _ (.head _))) hoc (fun p hp => ?_) (fun p hp => ?_) hne ⟨r1, q2, q3, r4, rvs, rn, tl, rfl, ?_⟩
            · rw [List.mem_singleton.mp hp]
              exact .tail _ (.tail _ (.tail _ (.head _)))
            · rcases List.mem_cons.mp hp with rfl | hp
              · exact .head _
              · exact .tail _ (.tail _ (.tail _ (.tail _ hp)))
            · rw [hfl, seenOne_hi (hi := some bh) (by first | rfl | (show ltB u bl = false; first | assumption | (simp_all; done))) (by show (!ltB u bh) = true; first | assumption | (simp_all; done)), List.append_nil]
              exact J
    | some bl =>
      cases hi with
      | none =>
        skip
        · skip
          unfold bndV at r2 r3
          dsimp only at r2 r3
          walk_at "mine stepsF"
          · skip
            skip
            have q2 : m₁ "low" = some (bndV (some bl) tl9) := r2
            have q3 : m₁ "high" = some (bndV none th9) := r3
            refine TurnC.next (news' := (rl, listOf rvs rn) :: (L' + 1, oB) :: (tl ++ rest)) (.inr rfl) F₁ N5 (.tail _ (.head _)) (.tail _ (.tail _ (.head _))) hoc (fun p hp => ?_) (fun p hp => ?_) hne ⟨r1, q2, q3, r4, rvs, rn, tl, rfl, ?_⟩
            · rw [List.mem_singleton.mp hp]
              exact .tail _ (.tail _ (.tail _ (.head _)))
            · rcases List.mem_cons.mp hp with rfl | hp
              · exact .head _
              · exact .tail _ (.tail _ (.tail _ (.tail _ hp)))
            · rw [hfl, seenOne_lo (lo := some bl) (by assumption), List.append_nil]
              exact J
          · skip
            skip
            have q2 : m₁ "low" = some (bndV (some bl) tl9) := r2
            have q3 : m₁ "high" = some (bndV none th9) := r3
            have hlow : underLo (some bl) u = false := by first | rfl | (show ltB u bl = false; first | assumption | (simp_all; done))
            have hhigh : pastHi none u = false := by first | rfl | (show (!ltB u bh) = false; first | assumption | (simp_all; done))
            rw [seenOne_eq hlow hhigh] at hfl
            refine seenB (el := el) (rl := rl) (u := u) (t := t) (upto := upto) (tu := tu) (oB := oB) (oc := oc) (ents := ents) F₁ X' N5 T' hk (by omega) (by omega) r4 r1 hoc (.tail _ (.head _)) dB2 (.tail _ (.tail _ (.tail _ (.head _)))) (.tail _ (.tail _ (.tail _ (.tail _ (List.mem_append_right _ hl))))) (he.mono fun p hp => .tail _ (.tail _ (.tail _ (.tail _ (List.mem_append_right _ hp))))) hsz (hoff5 _) hrz ⟨fun hc0 m' h' tk' hm' F9 N9 => ?_, fun v ae t1 t2 nn rn' m' h' tk' hc0 hm' hae haer F9 N9 => ?_⟩
            · refine wpAny_execs_nil ?_
              refine TurnC.next (news' := (rl, listOf rvs rn) :: (L' + 1, oB) :: (tl ++ rest)) (.inl rfl) F9 N9 (.tail _ (.head _)) (.tail _ (.tail _ (.head _))) hoc (fun p hp => ?_) (fun p hp => ?_) hne ⟨(hm' "rows" (by decide)).trans r1, (hm' "low" (by decide)).trans q2, (hm' "high" (by decide)).trans q3, (hm' "entries" (by decide)).trans r4, rvs, rn, tl, rfl, ?_⟩
              · rw [List.mem_singleton.mp hp]
                exact .tail _ (.tail _ (.tail _ (.head _)))
              · rcases List.mem_cons.mp hp with rfl | hp
                · exact .head _
                · exact .tail _ (.tail _ (.tail _ (.tail _ hp)))
              · rw [hfl, hc0, List.append_nil]
                exact J
            · refine wpAny_execs_nil ?_
              have a1 := hae _ (.head _)
              have a2 := hae _ (.tail _ (.head _))
              have a4 := hae _ (.tail _ (.tail _ (.tail _ (.head _))))
              have a5 : ∀ p ∈ tl ++ rest, p.1 ≠ ae := fun p hp => hae p (.tail _ (.tail _ (.tail _ (.tail _ hp))))
              refine TurnC.next (news' := (rl, listOf (rvs.push (.ref ae)) rn') :: (L' + 1, oB) :: (((ae, tupObj [.bytes u t1, .bytes v t2] nn) :: tl) ++ rest)) (.inl rfl) F9 N9 (.tail _ (.tail _ (.head _))) (.tail _ (.tail _ (.tail _ (.head _)))) hoc (fun p hp => ?_) (fun p hp => ?_) (fun p hp => ?_) ⟨(hm' "rows" (by decide)).trans r1, (hm' "low" (by decide)).trans q2, (hm' "high" (by decide)).trans q3, (hm' "entries" (by decide)).trans r4, _, rn', _, rfl, ?_⟩
              · rw [List.mem_singleton.mp hp]
                exact .tail _ (.tail _ (.tail _ (.tail _ (.head _))))
              · rcases List.mem_cons.mp hp with rfl | hp
                · exact .head _
                · rcases List.mem_cons.mp hp with rfl | hp
                  · exact .tail _ (.tail _ (.tail _ (.tail _ (.tail _ (.head _)))))
                  · rcases List.mem_cons.mp hp with rfl | hp
                    · exact .tail _ (.head _)
                    · exact .tail _ (.tail _ (.tail _ (.tail _ (.tail _ (.tail _ hp)))))
              · rcases List.mem_cons.mp hp with rfl | hp
                · exact ⟨hI1, hI2⟩
                · rcases List.mem_cons.mp hp with rfl | hp
                  · exact hne _ (.tail _ (.head _))
                  · rcases List.mem_cons.mp hp with rfl | hp
                    · exact ⟨fun e => a1 e.symm, fun e => a2 e.symm⟩
                    · exact hne p (.tail _ (.tail _ hp))
              · rw [hfl, hc0]
                exact J.more (fun q hq => a5 q (List.mem_append_right _ hq)) ⟨haer, fun e => a2 e.symm, fun e => a4 e.symm⟩
      | some bh =>
        skip
        · skip
          unfold bndV at r2 r3
          dsimp only at r2 r3
          walk_at "mine stepsF"
          · skip
            skip
            have q2 : m₁ "low" = some (bndV (some bl) tl9) := r2
            have q3 : m₁ "high" = some (bndV (some bh) th9) := r3
            refine TurnC.next (news' := (rl, listOf rvs rn) :: (L' + 1, oB) :: (tl ++ rest)) (.inr rfl) F₁ N5 (.tail _ (.head _)) (.tail _ (.tail _ (.head _))) hoc (fun p hp => ?_) (fun p hp => ?_) hne ⟨r1, q2, q3, r4, rvs, rn, tl, rfl, ?_⟩
            · rw [List.mem_singleton.mp hp]
              exact .tail _ (.tail _ (.tail _ (.head _)))
            · rcases List.mem_cons.mp hp with rfl | hp
              · exact .head _
              · exact .tail _ (.tail _ (.tail _ (.tail _ hp)))
            · rw [hfl, seenOne_lo (lo := some bl) (by assumption), List.append_nil]
              exact J
          · skip
            skip
            have q2 : m₁ "low" = some (bndV (some bl) tl9) := r2
            have q3 : m₁ "high" = some (bndV (some bh) th9) := r3
            have hlow : underLo (some bl) u = false := by first | rfl | (show ltB u bl = false; first | assumption | (simp_all; done))
            have hhigh : pastHi (some bh) u = false := by first | rfl | (show (!ltB u bh) = false; first | assumption | (simp_all; done))
            rw [seenOne_eq hlow hhigh] at hfl
            refine seenB (el := el) (rl := rl) (u := u) (t := t) (upto := upto) (tu := tu) (oB := oB) (oc := oc) (ents := ents) F₁ X' N5 T' hk (by omega) (by omega) r4 r1 hoc (.tail _ (.head _)) dB2 (.tail _ (.tail _ (.tail _ (.head _)))) (.tail _ (.tail _ (.tail _ (.tail _ (List.mem_append_right _ hl))))) (he.mono fun p hp => .tail _ (.tail _ (.tail _ (.tail _ (List.mem_append_right _ hp))))) hsz (hoff5 _) hrz ⟨fun hc0 m' h' tk' hm' F9 N9 => ?_, fun v ae t1 t2 nn rn' m' h' tk' hc0 hm' hae haer F9 N9 => ?_⟩
            · refine wpAny_execs_nil ?_
              refine TurnC.next (news' := (rl, listOf rvs rn) :: (L' + 1, oB) :: (tl ++ rest)) (.inl rfl) F9 N9 (.tail _ (.head _)) (.tail _ (.tail _ (.head _))) hoc (fun p hp => ?_) (fun p hp => ?_) hne ⟨(hm' "rows" (by decide)).trans r1, (hm' "low" (by decide)).trans q2, (hm' "high" (by decide)).trans q3, (hm' "entries" (by decide)).trans r4, rvs, rn, tl, rfl, ?_⟩
              · rw [List.mem_singleton.mp hp]
                exact .tail _ (.tail _ (.tail _ (.head _)))
              · rcases List.mem_cons.mp hp with rfl | hp
                · exact .head _
                · exact .tail _ (.tail _ (.tail _ (.tail _ hp)))
              · rw [hfl, hc0, List.append_nil]
                exact J
            · refine wpAny_execs_nil ?_
              have a1 := hae _ (.head _)
              have a2 := hae _ (.tail _ (.head _))
              have a4 := hae _ (.tail _ (.tail _ (.tail _ (.head _))))
              have a5 : ∀ p ∈ tl ++ rest, p.1 ≠ ae := fun p hp => hae p (.tail _ (.tail _ (.tail _ (.tail _ hp))))
              refine TurnC.next (news' := (rl, listOf (rvs.push (.ref ae)) rn') :: (L' + 1, oB) :: (((ae, tupObj [.bytes u t1, .bytes v t2] nn) :: tl) ++ rest)) (.inl rfl) F9 N9 (.tail _ (.tail _ (.head _))) (.tail _ (.tail _ (.tail _ (.head _)))) hoc (fun p hp => ?_) (fun p hp => ?_) (fun p hp => ?_) ⟨(hm' "rows" (by decide)).trans r1, (hm' "low" (by decide)).trans q2, (hm' "high" (by decide)).trans q3, (hm' "entries" (by decide)).trans r4, _, rn', _, rfl, ?_⟩
              · rw [List.mem_singleton.mp hp]
                exact .tail _ (.tail _ (.tail _ (.tail _ (.head _))))
              · rcases List.mem_cons.mp hp with rfl | hp
                · exact .head _
                · rcases List.mem_cons.mp hp with rfl | hp
                  · exact .tail _ (.tail _ (.tail _ (.tail _ (.tail _ (.head _)))))
                  · rcases List.mem_cons.mp hp with rfl | hp
                    · exact .tail _ (.head _)
                    · exact .tail _ (.tail _ (.tail _ (.tail _ (.tail _ (.tail _ hp)))))
              · rcases List.mem_cons.mp hp with rfl | hp
                · exact ⟨hI1, hI2⟩
                · rcases List.mem_cons.mp hp with rfl | hp
                  · exact hne _ (.tail _ (.head _))
                  · rcases List.mem_cons.mp hp with rfl | hp
                    · exact ⟨fun e => a1 e.symm, fun e => a2 e.symm⟩
                    · exact hne p (.tail _ (.tail _ hp))
              · rw [hfl, hc0]
                exact J.more (fun q hq => a5 q (List.mem_append_right _ hq)) ⟨haer, fun e => a2 e.symm, fun e => a4 e.symm⟩
          · skip
            skip
            have q2 : m₁ "low" = some (bndV (some bl) tl9) := r2
            have q3 : m₁ "high" = some (bndV (some bh) th9) := r3
            refine TurnC.next (news' := (rl, listOf rvs rn) :: (L' + 1, oB) :: (tl ++ rest)) (.inr rfl) F₁ N5 (.tail _ (.head _)) (.tail _ (.tail _ (.head _))) hoc (fun p hp => ?_) (fun p hp => ?_) hne ⟨r1, q2, q3, r4, rvs, rn, tl, rfl, ?_⟩
            · rw [List.mem_singleton.mp hp]
              exact .tail _ (.tail _ (.tail _ (.head _)))
            · rcases List.mem_cons.mp hp with rfl | hp
              · exact .head _
              · exact .tail _ (.tail _ (.tail _ (.tail _ hp)))
            · rw [hfl, seenOne_hi (hi := some bh) (by first | rfl | (show ltB u bl = false; first | assumption | (simp_all; done))) (by show (!ltB u bh) = true; first | assumption | (simp_all; done)), List.append_nil]
              exact J
  case done =>
    clear FF NN
    rintro m₁ news₁ h tk oc v ⟨r1, r2, r3, r4, rvs, rn, tl, rfl, J⟩ hoc hne F₁ N₁
    have J2 : SeenIn rest rl (L' + 1 + 1) (L' + 1) (usersL.flatMap (seenOne ents upto lo hi)) rvs tl := J
    clear J
    have N5 := news_of N₁ (b := (rl, listOf rvs rn) :: (tl ++ rest)) fun p hp => by
      rcases List.mem_cons.mp hp with rfl | hp
      · exact .tail _ (.tail _ (.head _))
      · exact .tail _ (.tail _ (.tail _ (.tail _ hp)))
    clear N₁
    walk_at "mine stepsF"
    rename Fr _ _ _ _ => F6
    rename News _ _ _ _ => N6
    refine k rl rvs rn tl _ _ F6 N6 (fun q hq => Nat.ne_of_lt (allLt_mem l2.2.2 q hq)) J2.new ⟨.head _, J2.size, ?_, fun i k v hi => ?_⟩
    · have h2 := flat_size (ents := ents) (upto := upto) (lo := lo) (hi := hi) usersL
      exact Nat.le_trans h2 (by decide)
    · obtain ⟨a', s1, s2, n', g1, g2⟩ := J2.row i k v hi
      exact ⟨a', s1, s2, n', g1, .tail _ g2⟩
end
open PySem PySem.W PyProof.Rows PySem.Spec
set_option maxRecDepth 100000
set_option hygiene false in
local macro_rules | `(tactic| walk_at "mine stepsM") => `(tactic| repeat' (first | ((fail_if_success (with_reducible show wpAny _ _ (execs R _) _ _ _)); (fail_if_success (with_reducible show wpAny _ _ (call (Value.ref 506) _) _ _ _)); (fail_if_success (with_reducible show wpAny _ _ (call (Value.ref 611) _) _ _ _)); (fail_if_success (with_reducible show wpAny _ _ (call (Value.ref 669) _) _ _ _)); (first | (k_unfold; (try dsimp only)) | walk1 | (dsimp only; walk1) | (leave1; walk_say "STEP leave1"; (try dsimp only)) | fail "no step"))))
/-! the walker that the law makes -/
def isCell (o : Obj) : Bool := match o.data with | .cell _ => true | _ => false
def nc (l : Led) : Led := l.filter fun p => !isCell p.2
theorem mem_nc {l : Led} {p : Addr × Obj} (h : p ∈ l) (hn : isCell p.2 = false) : p ∈ nc l := List.mem_filter.mpr ⟨h, by rw [hn]; rfl⟩
theorem nc_sub {l : Led} : ∀ p ∈ nc l, p ∈ l := fun p hp => (List.mem_filter.mp hp).1
theorem nc_apart {h₀ h : Heap} {L c : Addr} {o : Obj} {v : Option Value} {l : Led} (N : News h₀ L h l) (hm : (c, o) ∈ l) (hd : o.data = .cell v) : ∀ p ∈ nc l, p.1 ≠ c := fun p hp e => by
  have h1 := (N p (nc_sub p hp)).1
  have h2 := (N _ hm).1
  rw [e] at h1
  have e2 : p.2 = o := Option.some.inj (h1.symm.trans h2)
  have h3 := (List.mem_filter.mp hp).2
  rw [e2] at h3
  unfold isCell at h3
  rw [hd] at h3
  cases h3
theorem EntsIn.nc {l : Led} {vs : Array Value} {ents : List Ent} (h : EntsIn l vs ents) : EntsIn (nc l) vs ents :=
  ⟨h.size, fun i e he => by obtain ⟨a, xs, k, h1, h2, h3⟩ := h.at' i e he; exact ⟨a, xs, k, h1, mem_nc h2 rfl, h3⟩⟩
theorem RowsL.nc {l : Led} {rl : Addr} {rows : List RowB} {vs : Array Value} {n : Nat} (h : RowsL l rl rows vs n) : RowsL (nc l) rl rows vs n :=
  ⟨mem_nc h.lst rfl, h.size, h.small, fun i k v hi => by obtain ⟨a, t1, t2, n', h1, h2⟩ := h.row i k v hi; exact ⟨a, t1, t2, n', h1, mem_nc h2 rfl⟩⟩
theorem NumsIn.nc {l : Led} {nl : Addr} {vs : Array Value} {n k : Nat} (h : NumsIn l nl vs n k) : NumsIn (nc l) nl vs n k := ⟨mem_nc h.lst rfl, h.size, h.pos, h.small, h.num⟩
theorem OrdIn.nc {l : Led} {o : Addr} (h : OrdIn l o) : OrdIn (nc l) o := by
  obtain ⟨duo, uo, dd, hh, tt, n, m1, m2, m3, m4⟩ := h
  exact ⟨duo, uo, dd, hh, tt, n, mem_nc m1 rfl, mem_nc m2 rfl, mem_nc m3 rfl, mem_nc m4 rfl⟩
theorem LeafC.nc {fp l : Led} {c : Addr} {kd : Bool} {R : List Row} {st : Option Nat} (h : LeafC fp l c kd R st) : LeafC fp (nc l) c kd R st := by
  obtain ⟨h1, dx, o, r, vs, n2, q, p, t, h2, h3, h4, h5⟩ := h
  exact ⟨h1, dx, o, r, vs, n2, q, p, t, h2, ⟨mem_nc h3.inst rfl, mem_nc h3.lst rfl, h3.len, fun i k v hi => by
    obtain ⟨a, t1, t2, n, g1, g2⟩ := h3.row i k v hi
    exact ⟨a, t1, t2, n, g1, mem_nc g2 rfl⟩, h3.ok, h3.small, h3.ord.nc⟩, h4, h5⟩
theorem mk_merge {w : World} {rest tl rest' : Led} {pl cC x dx ch tp od : Addr} {ents : List Ent} {cnt nc' nt : Nat} {pvs tops : Array Value} {ks : List KS} {q : MP} {tc tg : Tok}
    (P : P14 rest pl cC (ents.map Ent.z) cnt pvs tl ks) (hc2 : cnt ≤ 3) (hsz : ents.length ≤ 5) (hok : ∀ e ∈ ents, e.Ok cnt) (hpw : (ents.map Ent.z).Pairwise Zord) (hO : OrdIn rest' od) (hs : ∀ p ∈ nc tl, p ∈ rest') (h1 : (x, instObj 506 dx) ∈ rest') (h2 : (ch, listOf pvs nc') ∈ rest')
    (ht : tops.size = pvs.size) (hd : @Ne Nat dx tp) (hf : ∀ p ∈ kfps ks, p.1 ≠ dx ∧ p.1 ≠ tp) :
    MergeW LeafC (ents.map Ent.row) ((dx, MD q ch tp od (-1) tc 0 tg) :: (tp, listOf tops nt) :: kfps ks) rest' x none := by
  have hl := P.len
  have hz := P.size
  refine ⟨rfl, dx, ch, tp, od, q, pvs, nc', tops, nt, ks, ents.map Ent.z, -1, tc, 0, tg, rfl, ⟨h1, h2, hO, by omega, fun i k hk => (P.kid i k hk).1, by omega, by omega, fun k hk => (leaf_spec w).mono (P.cur k hk).nc hs, P.apart, hf, hd, hpw, fun z hz => ?_, fun i k hk => (P.kid i k hk).2.2.1, by rw [List.length_map]; omega⟩, by rw [List.map_map]; rfl, rfl⟩
  obtain ⟨e, he, rfl⟩ := List.mem_map.mp hz
  rw [hl]
  exact (hok e he).c
section
variable {w : World} {A₀ : Around} {base h₀ : Heap} {L a : Addr} {ccd : Value} {m mg mb : Str → Option Value} {mean : ExcName → Option Value} {s : Shared} {rest led : Led} {Q : Flow → Shared → Prop} {E : Value → Shared → Prop} {R : List Stmt}
set_option maxHeartbeats 8000000 in
theorem st15 {pl od : Addr} {pvs : Array Value} {np : Nat} (B : Below A₀ base [] h₀) (F : Fr h₀ L s.heap m) (X : (Mine.hd.heap_39 w.params).In h₀) (N : News h₀ L s.heap (led)) (T : Top VW (looseW VW []) mean mg mb h₀)
    (e1 : m "parts" = some (.ref pl)) (e3 : m "order" = some (.ref od)) (hpl : (pl, listOf pvs np) ∈ led) (hz : pvs.size ≤ 10)
    (k : ∀ x dx ch tp q tc tg nc' nt tops h' tk', tops.size = pvs.size → (x ≠ dx ∧ x ≠ ch ∧ x ≠ tp ∧ dx ≠ ch ∧ dx ≠ tp ∧ ch ≠ tp) → (∀ p ∈ led, p.1 ≠ x ∧ p.1 ≠ dx ∧ p.1 ≠ ch ∧ p.1 ≠ tp) → Fr h₀ L h' (fun y => if y = "walker" then some (.ref x) else m y) → News h₀ L h' ((x, instObj 506 dx) :: (dx, MD q ch tp od (-1) tc 0 tg) :: (ch, listOf pvs nc') :: (tp, listOf tops nt) :: led) → wpAny (model Challenge.rw_no0415_01.row.prog w) (callerA.deeper (envOfC (Str.ofString "law") lawSc L a ccd)) (execs (R) (envOfC (Str.ofString "law") lawSc L a ccd)) Q E { s with heap := h', toks := tk' }) :
    wpAny (model Challenge.rw_no0415_01.row.prog w) (callerA.deeper (envOfC (Str.ofString "law") lawSc L a ccd)) (execs (lawAt 15 :: R) (envOfC (Str.ofString "law") lawSc L a ccd)) Q E s := by
  walk_at "mine open1"
  (have X1 := X; revert X1; k_fill; intro X1)
  walk_at "mine stepsM"
  rename Fr _ _ _ _ => FF
  rename News _ _ _ _ => NN
  refine Mine.minit_r B FF X NN T rfl (by ktr_room) (by ktr_units) hpl (by omega) fun x dx ch tp q tc tg cv nc' tops nt h' tk' F' N' hcv hts hdis hfr => ?_
  subst hcv
  clear FF NN
  walk_at "mine stepsM"
  rename Fr _ _ _ _ => FF
  rename News _ _ _ _ => NN
  exact k x dx ch tp q tc tg nc' nt tops _ _ hts hdis hfr FF NN
set_option maxHeartbeats 8000000 in
theorem st16 {fl : Addr} {oF : Obj} (B : Below A₀ base [] h₀) (F : Fr h₀ L s.heap m) (X : (Mine.hd.heap_39 w.params).In h₀) (N : News h₀ L s.heap (led)) (T : Top VW (looseW VW []) mean mg mb h₀)
    (hF : oF.data = .cell (some (.ref fl))) (hcF : (L + 1 + 1, oF) ∈ led)
    (k : ∀ h' tk', Fr h₀ L h' (fun y => if y = "rows" then some (.ref fl) else m y) → News h₀ L h' led → wpAny (model Challenge.rw_no0415_01.row.prog w) (callerA.deeper (envOfC (Str.ofString "law") lawSc L a ccd)) (execs (R) (envOfC (Str.ofString "law") lawSc L a ccd)) Q E { s with heap := h', toks := tk' }) :
    wpAny (model Challenge.rw_no0415_01.row.prog w) (callerA.deeper (envOfC (Str.ofString "law") lawSc L a ccd)) (execs (lawAt 16 :: R) (envOfC (Str.ofString "law") lawSc L a ccd)) Q E s := by
  walk_at "mine open1"
  (have X1 := X; revert X1; k_fill; intro X1)
  walk_at "mine stepsM"
  rename Fr _ _ _ _ => FF
  rename News _ _ _ _ => NN
  exact k _ _ FF NN
set_option maxHeartbeats 8000000 in
theorem st17m  (B : Below A₀ base [] h₀) (F : Fr h₀ L s.heap m) (X : (Mine.hd.heap_39 w.params).In h₀) (N : News h₀ L s.heap (led)) (T : Top VW (looseW VW []) mean mg mb h₀)
    (e1 : m "merged" = some (.bool true))
    (k : ∀ h' tk', Fr h₀ L h' m → News h₀ L h' led → wpAny (model Challenge.rw_no0415_01.row.prog w) (callerA.deeper (envOfC (Str.ofString "law") lawSc L a ccd)) (execs (R) (envOfC (Str.ofString "law") lawSc L a ccd)) Q E { s with heap := h', toks := tk' }) :
    wpAny (model Challenge.rw_no0415_01.row.prog w) (callerA.deeper (envOfC (Str.ofString "law") lawSc L a ccd)) (execs (lawAt 17 :: R) (envOfC (Str.ofString "law") lawSc L a ccd)) Q E s := by
  walk_at "mine open1"
  (have X1 := X; revert X1; k_fill; intro X1)
  walk_at "mine stepsM"
  rename Fr _ _ _ _ => FF
  rename News _ _ _ _ => NN
  exact k _ _ FF NN
set_option maxHeartbeats 8000000 in
theorem st17u {x od el : Addr} {upto : Int} {tu tl9 th9 : Tok} {lo hi : Option (Array UInt8)} {vs : Array Value} {n : Nat} {ents : List Ent} {oE : Obj} (B : Below A₀ base [] h₀) (F : Fr h₀ L s.heap m) (X : (Mine.hd.heap_39 w.params).In h₀) (N : News h₀ L s.heap (led)) (T : Top VW (looseW VW []) mean mg mb h₀)
    (e1 : m "merged" = some (.bool false)) (e2 : m "walker" = some (.ref x)) (e3 : m "order" = some (.ref od)) (e4 : m "upto" = some (.int upto tu)) (e5 : m "low" = some (bndV lo tl9)) (e6 : m "high" = some (bndV hi th9)) (hE : oE.data = .cell (some (.ref el))) (hcE : (L + 1, oE) ∈ led) (hl : (el, listOf vs n) ∈ led) (he : EntsIn led vs ents) (hsz : ents.length ≤ 5)
    (k : ∀ u du q tg tk1 tv1 rl rvs rn nw m' h' tk', @Ne Nat u du → (∀ p ∈ led, p.1 ≠ u ∧ p.1 ≠ du) → (∀ p ∈ led, p.1 ≠ rl) → @Ne Nat u rl → @Ne Nat du rl → (∀ p ∈ nw, (∀ q ∈ led, q.1 ≠ p.1) ∧ @Ne Nat u p.1 ∧ @Ne Nat du p.1) → RowsL ((rl, listOf rvs rn) :: nw) rl (usersL.flatMap (seenOne ents upto lo hi)) rvs rn → (∀ y : Str, y ≠ "walker" → y ≠ "rows" → m' y = m y) → m' "walker" = some (.ref u) → m' "rows" = some (.ref rl) → Fr h₀ L h' m' → News h₀ L h' ((rl, listOf rvs rn) :: (nw ++ ((u, instObj 611 du) :: (du, UD q x upto lo hi 0 tg false #[] tk1 #[] tv1) :: led))) → wpAny (model Challenge.rw_no0415_01.row.prog w) (callerA.deeper (envOfC (Str.ofString "law") lawSc L a ccd)) (execs (R) (envOfC (Str.ofString "law") lawSc L a ccd)) Q E { s with heap := h', toks := tk' }) :
    wpAny (model Challenge.rw_no0415_01.row.prog w) (callerA.deeper (envOfC (Str.ofString "law") lawSc L a ccd)) (execs (lawAt 17 :: R) (envOfC (Str.ofString "law") lawSc L a ccd)) Q E s := by
  walk_at "mine open1"
  (have X1 := X; revert X1; k_fill; intro X1)
  walk_at "mine stepsM"
  rename Fr _ _ _ _ => FF
  rename News _ _ _ _ => NN
  refine Mine.uinit_r B FF X NN T rfl (by ktr_room) (by ktr_units) fun u du q tg tk1 tv1 h' tk' F' N' hne hfr => ?_
  clear FF NN
  walk_at "mine stepsM"
  rename Fr _ _ _ _ => FF
  rename News _ _ _ _ => NN
  refine Mine.seen_r B FF X NN T rfl (by ktr_room) (by ktr_units) (.tail _ (.tail _ hl)) (he.mono fun p hp => .tail _ (.tail _ hp)) hsz fun rl rvs rn nw h' tk' F' N' h1 h2 h3 => ?_
  clear FF NN
  walk_at "mine stepsM"
  rename Fr _ _ _ _ => FF
  rename News _ _ _ _ => NN
  exact k u du q tg tk1 tv1 rl rvs rn nw _ _ _ hne hfr (fun p hp => h1 p (.tail _ (.tail _ hp))) (h1 _ (.head _)) (h1 _ (.tail _ (.head _))) (fun p hp => ⟨fun q hq => h2 p hp q (.tail _ (.tail _ hq)), h2 p hp _ (.head _), h2 p hp _ (.tail _ (.head _))⟩) h3 (fun y h1 h2 => by simp only [if_neg h1, if_neg h2]) rfl rfl FF NN
end
open PySem PySem.W PyProof.Rows PySem.Spec
set_option maxRecDepth 100000
section
variable {w : World} {A₀ : Around} {base h₀ : Heap} {L a : Addr} {ccd : Value} {m mg mb : Str → Option Value} {mean : ExcName → Option Value} {s : Shared} {rest led : Led} {Q : Flow → Shared → Prop} {E : Value → Shared → Prop} {R : List Stmt}
set_option maxHeartbeats 8000000 in
theorem st234 {nl : Addr} {vs : Array Value} {n kk : Nat} (B : Below A₀ base [] h₀) (F : Fr h₀ L s.heap m) (X : (Mine.hd.heap_39 w.params).In h₀) (N : News h₀ L s.heap (led)) (T : Top VW (looseW VW []) mean mg mb h₀)
    (hn : NumsIn led nl vs n kk) (e1 : m "nums" = some (.ref nl))
    (k : ∀ z tz wk (cnt : Nat) tc m' h' tk', 0 ≤ z → z < 2000000 → 0 < cnt → cnt ≤ 3 → (∀ y : Str, y ≠ "setup" → y ≠ "merged" → y ≠ "count" → m' y = m y) → m' "setup" = some (.int z tz) → m' "merged" = some (.bool wk) → m' "count" = some (.int (cnt : Int) tc) → Fr h₀ L h' m' → News h₀ L h' led → wpAny (model Challenge.rw_no0415_01.row.prog w) (callerA.deeper (envOfC (Str.ofString "law") lawSc L a ccd)) (execs (R) (envOfC (Str.ofString "law") lawSc L a ccd)) Q E { s with heap := h', toks := tk' }) :
    wpAny (model Challenge.rw_no0415_01.row.prog w) (callerA.deeper (envOfC (Str.ofString "law") lawSc L a ccd)) (execs (lawAt 2 :: lawAt 3 :: lawAt 4 :: R) (envOfC (Str.ofString "law") lawSc L a ccd)) Q E s := by
  walk_at "mine open3"
  (have X1 := X; revert X1; k_fill; intro X1)
  walk_at "mine stepsR"
  rename Fr _ _ _ _ => FF
  rename News _ _ _ _ => NN
  have c0 := Int.fmod_nonneg_of_pos (z'.fdiv 2) (b := 3) (by decide)
  have c1 := Int.fmod_lt_of_pos (z'.fdiv 2) (b := 3) (by decide)
  obtain ⟨c, hc9⟩ := Int.eq_ofNat_of_zero_le (show 0 ≤ 1 + (z'.fdiv 2).fmod 3 by omega)
  rw [hc9] at FF
  exact k z' _ _ c _ _ _ _ hz'.1 hz'.2 (by omega) (by omega) (fun y h1 h2 h3 => by simp only [if_neg h1, if_neg h2, if_neg h3]) rfl rfl rfl FF NN
set_option maxHeartbeats 8000000 in
theorem fin {D : Nat} {c : Addr} {wk : Bool} {rows : List RowB} {W : Led → Led → Addr → Option Nat → Prop} {fp R0 : Led}{rl nl : Addr} {rvs nvs : Array Value} {rn nn kk : Nat} {oT oS : Obj} {vT vS : Option Value} {el : Addr} {vs : Array Value} {n : Nat} {ents : List Ent} {oE : Obj} (B : Below A₀ base [] h₀) (F : Fr h₀ L s.heap m) (X : (Mine.hd.heap_39 w.params).In h₀) (N : News h₀ L s.heap ((L + 1 + 1 + 1 + 1, oT) :: (L + 1 + 1 + 1 + 1 + 1, oS) :: (fp ++ R0))) (T : Top VW (looseW VW []) mean mg mb h₀)
    (hPE : PassesOwn (model Challenge.rw_no0415_01.row.prog w) (callerA.deeper (envOfC (Str.ofString "law") lawSc L a ccd)) (envOfC (Str.ofString "law") lawSc L a ccd) E)(XB : (Mine.hd.heap_39 w.params).In base) (TB : Top VW (looseW VW []) mean mg mb base) (hS : WkSpec w D wk rows W) (hC : W fp R0 c none) (hD : D ≤ 60) (ho : Off fp R0) (hT : oT.data = .cell vT) (hS5 : oS.data = .cell vS) (hap : ∀ p ∈ fp ++ R0, p.1 ≠ L + 1 + 1 + 1 + 1 ∧ p.1 ≠ L + 1 + 1 + 1 + 1 + 1) (hn : NumsIn R0 nl nvs nn kk) (e1 : m "nums" = some (.ref nl)) (e4 : m "walker" = some (.ref c)) (e5 : m "merged" = some (.bool wk)) (e7 : m "rows" = some (.ref rl)) (hr : RowsL R0 rl rows rvs rn)
    (hE : oE.data = .cell (some (.ref el))) (hcE : (L + 1, oE) ∈ R0) (hl : (el, listOf vs n) ∈ R0) (he : EntsIn R0 vs ents) (hsz : ents.length ≤ 5) (hsm : wk = true → ∀ {fp E0 : Led} {p : Option Nat} (u : Array UInt8) (q : Nat) (t : Tok), W fp R0 c p → (∀ x ∈ R0, x ∈ E0) → Off fp E0 → u.size ≤ 8 → seqOk q → Calls w D (adrW wk .seek) [.ref c, .bytes (ikb ⟨u, q, 1⟩) t] fp E0 fun r fp' => r = .none ∧ sameAdr fp' fp ∧ W fp' R0 c (placeP rows.length ((ents.countP fun e => ltL (cut3 e) [.b u, .i (0 - (q : Int)), .i (-1)] : Nat) : Int))) (hsu : wk = false → ∀ {fp E0 : Led} {p : Option Nat} (u : Array UInt8) (t : Tok), W fp R0 c p → (∀ x ∈ R0, x ∈ E0) → Off fp E0 → u.size ≤ 8 → Calls w D (adrW wk .seek) [.ref c, .bytes u t] fp E0 fun r fp' => r = .none ∧ sameAdr fp' fp ∧ W fp' R0 c (placeP rows.length ((rows.countP fun r => ltB r.1 u : Nat) : Int)))
    (k : ∀ m' h' tk' led, Fr h₀ L h' m' → News h₀ L h' led → wpAny (model Challenge.rw_no0415_01.row.prog w) (callerA.deeper (envOfC (Str.ofString "law") lawSc L a ccd)) (execs (R) (envOfC (Str.ofString "law") lawSc L a ccd)) Q E { s with heap := h', toks := tk' }) :
    wpAny (model Challenge.rw_no0415_01.row.prog w) (callerA.deeper (envOfC (Str.ofString "law") lawSc L a ccd)) (execs (lawAt 18 :: lawAt 19 :: lawAt 20 :: R) (envOfC (Str.ofString "law") lawSc L a ccd)) Q E s := by
  refine st18 B F X N T fun tp h' tk' F' N' => ?_
  have hC' := hC
  rw [noneP_place rows.length] at hC'
  refine st19 (R1 := []) (fp := fp) (E0 := (L + 1 + 1 + 1 + 1, oT) :: (L + 1 + 1 + 1 + 1 + 1, oS) :: R0) (place := -1) (tp := tp) B F' X (news_of N' fun p hp => led_in p hp) T XB TB hS hC' hD (fun x hx => .tail _ (.tail _ hx)) (off_E ho hap) (hr.mono fun x hx => .tail _ (.tail _ hx)) e4 rfl e7 fun h₂ tk₂ F₂ N₂ => ?_
  exact st20 (place := -1) (tp := tp) B F₂ X (news_of N₂ fun p hp => led_out p hp) T hPE XB TB hS hC' hD ho hT hS5 hap hn e1 e4 e5 rfl e7 hr hE hcE hl he hsz hsm hsu k
end
open PySem PySem.W PyProof.Rows PySem.Spec
set_option maxRecDepth 100000
theorem Calls.weaken {w : World} {D D' : Nat} {f : Addr} {args : List Value} {fp rest : Led} {post : Value → Led → Prop} (h : Calls w D f args fp rest post) (hD : D ≤ D') : Calls w D' f args fp rest post := by
  intro dp un gd cn cs a ccd cl outer A₀ base h₀ L m mg mb mean s Q E B F X N T hk hd hu k
  exact h dp un gd cn cs a ccd cl outer A₀ base h₀ L m mg mb mean s Q E B F X N T hk (by omega) (by omega) k
theorem rows_rb (ents : List Ent) : (ents.map Ent.row).map (fun x => (ikb x.1, x.2)) = ents.map Ent.rb := by rw [List.map_map]; rfl
theorem merge_seek {w : World} {ents : List Ent} {c : Addr} {fp R0 E0 : Led} {p : Option Nat} (hs : SortedR (ents.map Ent.row)) (hk : ∀ e ∈ ents, e.k ≤ 1) (u : Array UInt8) (q : Nat) (t : Tok) (hC : MergeW LeafC (ents.map Ent.row) fp R0 c p) (hsub : ∀ x ∈ R0, x ∈ E0) (ho : Off fp E0) (hu : u.size ≤ 8) (hq : seqOk q) :
    Calls w 22 (adrW true .seek) [.ref c, .bytes (ikb ⟨u, q, 1⟩) t] fp E0 fun r fp' => r = .none ∧ sameAdr fp' fp ∧ MergeW LeafC (ents.map Ent.row) fp' R0 c (placeP (ents.map Ent.rb).length ((ents.countP fun e => ltL (cut3 e) [.b u, .i (0 - (q : Int)), .i (-1)] : Nat) : Int)) := by
  have := (merge_spec (leaf_spec w)).seek (e := ⟨u, q, 1⟩) (t := t) hC hsub ho ⟨seq_lt hq, by show (1 : Nat) < 256; decide, by show u.size ≤ 1000; omega⟩
  rw [seekAt_place, ← ents_count hs hk] at this
  rw [show (ents.map Ent.rb).length = (ents.map Ent.row).length by simp]
  exact this
theorem user_facts {ents : List Ent} {upto : Int} {lo hi : Option (Array UInt8)} (hs : SortedR (ents.map Ent.row)) (hk : ∀ e ∈ ents, e.k ≤ 1) (h0 : 0 ≤ upto) (h1 : upto ≤ 1099511627776) (hlo : ∀ b, lo = some b → b.size ≤ 8) (hhi : ∀ b, hi = some b → b.size ≤ 8) : UFacts (ents.map Ent.row) upto lo hi :=
  ⟨hs, fun x hx => by
    obtain ⟨e, he, rfl⟩ := List.mem_map.mp hx
    rw [row_kind (hk e he)]
    have := hk e he
    omega, h0, by omega, fun b hb => by have := hlo b hb; omega, fun b hb => by have := hhi b hb; omega⟩
theorem user_seek2 {w : World} {ents : List Ent} {upto : Int} {lo hi : Option (Array UInt8)} {c : Addr} {fp R0 E0 : Led} {p : Option Nat} (f : UFacts (ents.map Ent.row) upto lo hi) (u : Array UInt8) (t : Tok) (hC : UserS (MergeC LeafC) upto lo hi (ents.map Ent.row) fp R0 c p) (hsub : ∀ x ∈ R0, x ∈ E0) (ho : Off fp E0) (hu : u.size ≤ 8) :
    Calls w 34 (adrW false .seek) [.ref c, .bytes u t] fp E0 fun r fp' => r = .none ∧ sameAdr fp' fp ∧ UserS (MergeC LeafC) upto lo hi (ents.map Ent.row) fp' R0 c (placeP (toldRows (ents.map Ent.row) upto lo hi).length (((toldRows (ents.map Ent.row) upto lo hi).countP fun r => ltB r.1 u : Nat) : Int)) := by
  have := (user_seek (merge_spec (leaf_spec w)) f (t := u) (tt := t) (by omega) hC hsub ho).weaken (D' := 34) (by decide)
  rw [placeT_place, told_count] at this
  rw [show (toldRows (ents.map Ent.row) upto lo hi).length = (toldL (ents.map Ent.row) upto lo hi).length by unfold toldRows; simp]
  exact this
section
variable {w : World} {A₀ : Around} {base h₀ : Heap} {L a : Addr} {ccd : Value} {m mg mb : Str → Option Value} {mean : ExcName → Option Value} {s : Shared} {rest led : Led} {Q : Flow → Shared → Prop} {E : Value → Shared → Prop} {R : List Stmt}
set_option maxHeartbeats 8000000 in
theorem glueB {el fl pl od nl : Addr} {vs fvs nvs pvs : Array Value} {n n' nn kk np cnt : Nat} {ents : List Ent} {oE oF oC oT oS : Obj} {vC vT vS : Option Value} {tl : Led} {ks : List KS} {wk : Bool} {upto : Int} {tu tl9 th9 : Tok} {lo hi : Option (Array UInt8)} (B : Below A₀ base [] h₀) (F : Fr h₀ L s.heap m) (X : (Mine.hd.heap_39 w.params).In h₀) (N : News h₀ L s.heap ((L + 1 + 1 + 1, oC) :: (pl, listOf pvs np) :: (kfps ks ++ tl))) (T : Top VW (looseW VW []) mean mg mb h₀)
    (hPE : PassesOwn (model Challenge.rw_no0415_01.row.prog w) (callerA.deeper (envOfC (Str.ofString "law") lawSc L a ccd)) (envOfC (Str.ofString "law") lawSc L a ccd) E)(XB : (Mine.hd.heap_39 w.params).In base) (TB : Top VW (looseW VW []) mean mg mb base)
    (P : P14 rest pl (L + 1 + 1 + 1) (ents.map Ent.z) cnt pvs tl ks) (hcE : (L + 1, oE) ∈ rest) (hcF : (L + 1 + 1, oF) ∈ rest) (hcT : (L + 1 + 1 + 1 + 1, oT) ∈ rest) (hcS : (L + 1 + 1 + 1 + 1 + 1, oS) ∈ rest) (hE : oE.data = .cell (some (.ref el))) (hF : oF.data = .cell (some (.ref fl))) (hC : oC.data = .cell vC) (hT : oT.data = .cell vT) (hS5 : oS.data = .cell vS) (hpT : @Ne Nat pl (L + 1 + 1 + 1 + 1)) (hpS : @Ne Nat pl (L + 1 + 1 + 1 + 1 + 1))
    (hl : (el, listOf vs n) ∈ rest) (he : EntsIn rest vs ents) (hf : RowsL rest fl (ents.map Ent.rb) fvs n') (hO : OrdIn rest od) (hn : NumsIn rest nl nvs nn kk) (hok : ∀ e ∈ ents, e.Ok cnt) (hc2 : cnt ≤ 3) (hsz : ents.length ≤ 5) (hpw : ents.Pairwise fun a b => ltL a.fd b.fd = true)
    (e1 : m "nums" = some (.ref nl)) (e2 : m "parts" = some (.ref pl)) (e3 : m "order" = some (.ref od)) (e4 : m "merged" = some (.bool wk)) (e5 : m "upto" = some (.int upto tu)) (e6 : m "low" = some (bndV lo tl9)) (e7 : m "high" = some (bndV hi th9)) (hu0 : 0 ≤ upto) (hu1 : upto ≤ 1099511627776) (hlo : ∀ b, lo = some b → b.size ≤ 8) (hhi : ∀ b, hi = some b → b.size ≤ 8)
    (k : ∀ m' h' tk' led, Fr h₀ L h' m' → News h₀ L h' led → wpAny (model Challenge.rw_no0415_01.row.prog w) (callerA.deeper (envOfC (Str.ofString "law") lawSc L a ccd)) (execs (R) (envOfC (Str.ofString "law") lawSc L a ccd)) Q E { s with heap := h', toks := tk' }) :
    wpAny (model Challenge.rw_no0415_01.row.prog w) (callerA.deeper (envOfC (Str.ofString "law") lawSc L a ccd)) (execs (lawAt 15 :: lawAt 16 :: lawAt 17 :: lawAt 18 :: lawAt 19 :: lawAt 20 :: R) (envOfC (Str.ofString "law") lawSc L a ccd)) Q E s := by
  have hk : ∀ e ∈ ents, e.k ≤ 1 := fun e he => (hok e he).k
  have hsr := ents_sorted hpw hk
  have hzo := ents_pw hpw hk
  have gs := P.grow.sub
  have tE := gs _ hcE
  have tF := gs _ hcF
  have tT := gs _ hcT
  have tS := gs _ hcS
  have Ntl := news_of N (b := tl) fun p hp => .tail _ (.tail _ (List.mem_append_right _ hp))
  have aT := nc_apart Ntl tT hT
  have aS := nc_apart Ntl tS hS5
  have N15 := news_of N (b := (pl, listOf pvs np) :: (L + 1, oE) :: (L + 1 + 1, oF) :: (L + 1 + 1 + 1 + 1, oT) :: (L + 1 + 1 + 1 + 1 + 1, oS) :: (kfps ks ++ nc tl)) fun p hp => by
    rcases List.mem_cons.mp hp with rfl | hp
    · exact .tail _ (.head _)
    · rcases List.mem_cons.mp hp with rfl | hp
      · exact .tail _ (.tail _ (List.mem_append_right _ tE))
      · rcases List.mem_cons.mp hp with rfl | hp
        · exact .tail _ (.tail _ (List.mem_append_right _ tF))
        · rcases List.mem_cons.mp hp with rfl | hp
          · exact .tail _ (.tail _ (List.mem_append_right _ tT))
          · rcases List.mem_cons.mp hp with rfl | hp
            · exact .tail _ (.tail _ (List.mem_append_right _ tS))
            · rcases List.mem_append.mp hp with hp | hp
              · exact .tail _ (.tail _ (List.mem_append_left _ hp))
              · exact .tail _ (.tail _ (List.mem_append_right _ (nc_sub p hp)))
  refine st15 B F X N15 T e2 e3 (.head _) (by have := P.size; omega) ?_
  intro x dx ch tp q tc tg nc' nt tops h1 tk1 hts hdis hfr F1 N1
  refine st16 B F1 X N1 T hF (.tail _ (.tail _ (.tail _ (.tail _ (.tail _ (.tail _ (.head _))))))) ?_
  intro h2 tk2 F2 N2
  obtain ⟨d1, d2, d3, d4, d5, d6⟩ := hdis
  have fE := hfr _ (.tail _ (.head _))
  have fT := hfr _ (.tail _ (.tail _ (.tail _ (.head _))))
  have fS := hfr _ (.tail _ (.tail _ (.tail _ (.tail _ (.head _)))))
  have fK : ∀ p ∈ kfps ks ++ nc tl, p.1 ≠ x ∧ p.1 ≠ dx ∧ p.1 ≠ ch ∧ p.1 ≠ tp := fun p hp => hfr p (.tail _ (.tail _ (.tail _ (.tail _ (.tail _ hp)))))
  have hoff : Off ((dx, MD q ch tp od (-1) tc 0 tg) :: (tp, listOf tops nt) :: kfps ks) ((x, instObj 506 dx) :: (ch, listOf pvs nc') :: (L + 1, oE) :: nc tl) := by
    intro p hp r hr
    rcases List.mem_cons.mp hp with rfl | hp
    · rcases List.mem_cons.mp hr with rfl | hr
      · exact d1
      · rcases List.mem_cons.mp hr with rfl | hr
        · exact fun e => d4 e.symm
        · rcases List.mem_cons.mp hr with rfl | hr
          · exact fE.2.1
          · exact (fK r (List.mem_append_right _ hr)).2.1
    · rcases List.mem_cons.mp hp with rfl | hp
      · rcases List.mem_cons.mp hr with rfl | hr
        · exact d3
        · rcases List.mem_cons.mp hr with rfl | hr
          · exact d6
          · rcases List.mem_cons.mp hr with rfl | hr
            · exact fE.2.2.2
            · exact (fK r (List.mem_append_right _ hr)).2.2.2
      · have hk9 := fK p (List.mem_append_left _ hp)
        rcases List.mem_cons.mp hr with rfl | hr
        · exact fun e => hk9.1 e.symm
        · rcases List.mem_cons.mp hr with rfl | hr
          · exact fun e => hk9.2.2.1 e.symm
          · rcases List.mem_cons.mp hr with rfl | hr
            · exact P.gk p hp _ hcE
            · exact P.offk p hp r (nc_sub r hr)
  have hap : ∀ p ∈ ((dx, MD q ch tp od (-1) tc 0 tg) :: (tp, listOf tops nt) :: kfps ks) ++ ((x, instObj 506 dx) :: (ch, listOf pvs nc') :: (L + 1, oE) :: nc tl), p.1 ≠ L + 1 + 1 + 1 + 1 ∧ p.1 ≠ L + 1 + 1 + 1 + 1 + 1 := by
    intro p hp
    rcases List.mem_append.mp hp with hp | hp
    · rcases List.mem_cons.mp hp with rfl | hp
      · exact ⟨fun e => fT.2.1 e.symm, fun e => fS.2.1 e.symm⟩
      · rcases List.mem_cons.mp hp with rfl | hp
        · exact ⟨fun e => fT.2.2.2 e.symm, fun e => fS.2.2.2 e.symm⟩
        · exact ⟨fun e => P.gk p hp _ hcT e.symm, fun e => P.gk p hp _ hcS e.symm⟩
    · rcases List.mem_cons.mp hp with rfl | hp
      · exact ⟨fun e => fT.1 e.symm, fun e => fS.1 e.symm⟩
      · rcases List.mem_cons.mp hp with rfl | hp
        · exact ⟨fun e => fT.2.2.1 e.symm, fun e => fS.2.2.1 e.symm⟩
        · rcases List.mem_cons.mp hp with rfl | hp
          · exact ⟨Nat.ne_of_lt (Nat.lt_of_lt_of_le (Nat.lt_succ_self _) (Nat.le_succ_of_le (Nat.le_succ _))), Nat.ne_of_lt (Nat.lt_of_lt_of_le (Nat.lt_succ_self _) (Nat.le_succ_of_le (Nat.le_succ_of_le (Nat.le_succ _))))⟩
          · exact ⟨aT p hp, aS p hp⟩
  have sR : ∀ p ∈ nc tl, p ∈ ((x, instObj 506 dx) :: (ch, listOf pvs nc') :: (L + 1, oE) :: nc tl : Led) := fun p hp => .tail _ (.tail _ (.tail _ hp))
  have hM : MergeW LeafC (ents.map Ent.row) ((dx, MD q ch tp od (-1) tc 0 tg) :: (tp, listOf tops nt) :: kfps ks) ((x, instObj 506 dx) :: (ch, listOf pvs nc') :: (L + 1, oE) :: nc tl) x none :=
    mk_merge (w := w) P hc2 hsz hok hzo ((hO.mono gs).nc.mono sR) sR (.head _) (.tail _ (.head _)) hts d5 fun p hp => ⟨(fK p (List.mem_append_left _ hp)).2.1, (fK p (List.mem_append_left _ hp)).2.2.2⟩
  have N3 := news_of N2 (b := (L + 1 + 1 + 1 + 1, oT) :: (L + 1 + 1 + 1 + 1 + 1, oS) :: (((dx, MD q ch tp od (-1) tc 0 tg) :: (tp, listOf tops nt) :: kfps ks) ++ ((x, instObj 506 dx) :: (ch, listOf pvs nc') :: (L + 1, oE) :: nc tl))) fun p hp => by
    rcases List.mem_cons.mp hp with rfl | hp
    · exact .tail _ (.tail _ (.tail _ (.tail _ (.tail _ (.tail _ (.tail _ (.head _)))))))
    · rcases List.mem_cons.mp hp with rfl | hp
      · exact .tail _ (.tail _ (.tail _ (.tail _ (.tail _ (.tail _ (.tail _ (.tail _ (.head _))))))))
      · rcases List.mem_append.mp hp with hp | hp
        · rcases List.mem_cons.mp hp with rfl | hp
          · exact .tail _ (.head _)
          · rcases List.mem_cons.mp hp with rfl | hp
            · exact .tail _ (.tail _ (.tail _ (.head _)))
            · exact .tail _ (.tail _ (.tail _ (.tail _ (.tail _ (.tail _ (.tail _ (.tail _ (.tail _ (List.mem_append_left _ hp)))))))))
        · rcases List.mem_cons.mp hp with rfl | hp
          · exact .head _
          · rcases List.mem_cons.mp hp with rfl | hp
            · exact .tail _ (.tail _ (.head _))
            · rcases List.mem_cons.mp hp with rfl | hp
              · exact .tail _ (.tail _ (.tail _ (.tail _ (.tail _ (.head _)))))
              · exact .tail _ (.tail _ (.tail _ (.tail _ (.tail _ (.tail _ (.tail _ (.tail _ (.tail _ (List.mem_append_right _ hp)))))))))
  clear N N15 N1 N2
  have he3 := (he.mono gs).nc.mono sR
  have hl3 := sR _ (mem_nc (gs _ hl) rfl)
  have hn3 := (hn.mono gs).nc.mono sR
  have hf3 := (hf.mono gs).nc.mono sR
  cases wk with
  | true =>
    refine st17m B F2 X N3 T e4 ?_
    intro h3 tk3 F3 N4
    have spec := mergeW_spec (R := ents.map Ent.row) (leaf_spec w)
    rw [rows_rb] at spec
    exact fin (R := R) B F3 X N4 T hPE XB TB spec hM (by decide) hoff hT hS5 hap hn3 e1 rfl e4 rfl hf3 hE (.tail _ (.tail _ (.head _))) hl3 he3 hsz (fun _ {fp E0 p} u q t a1 a2 a3 a4 a5 => merge_seek hsr hk u q t a1 a2 a3 a4 a5) (fun h => (nomatch h)) k
  | false =>
    refine st17u (el := el) (x := x) (od := od) (upto := upto) (tu := tu) (tl9 := tl9) (th9 := th9) (lo := lo) (hi := hi) B F2 X N3 T e4 rfl e3 e5 e6 e7 hE (.tail _ (.tail _ (List.mem_append_right _ (.tail _ (.tail _ (.head _)))))) (.tail _ (.tail _ (List.mem_append_right _ hl3))) (he3.mono fun p hp => .tail _ (.tail _ (List.mem_append_right _ hp))) hsz ?_
    intro u du q2 tg2 tk9 tv9 rl rvs rn nw m' h3 tk3 g1 g2 g3 g4 g5 g6 g7 g8 g9 g10 F3 N4
    have uf := user_facts (upto := upto) (lo := lo) (hi := hi) hsr hk hu0 hu1 hlo hhi
    have spec := userW_spec (merge_spec (leaf_spec w)) uf
    rw [seen_told hsr (fun e he => (hok e he).u) hk] at g7
    have l1 : ∀ p ∈ ((dx, MD q ch tp od (-1) tc 0 tg) :: (tp, listOf tops nt) :: kfps ks) ++ ((x, instObj 506 dx) :: (ch, listOf pvs nc') :: (L + 1, oE) :: nc tl), p ∈ ((L + 1 + 1 + 1 + 1, oT) :: (L + 1 + 1 + 1 + 1 + 1, oS) :: (((dx, MD q ch tp od (-1) tc 0 tg) :: (tp, listOf tops nt) :: kfps ks) ++ ((x, instObj 506 dx) :: (ch, listOf pvs nc') :: (L + 1, oE) :: nc tl)) : Led) := fun p hp => .tail _ (.tail _ hp)
    generalize hfp : ((dx, MD q ch tp od (-1) tc 0 tg) :: (tp, listOf tops nt) :: kfps ks : Led) = fp at *
    generalize hR0 : ((x, instObj 506 dx) :: (ch, listOf pvs nc') :: (L + 1, oE) :: nc tl : Led) = R0 at *
    have sU : ∀ p ∈ R0, p ∈ ((rl, listOf rvs rn) :: (nw ++ ((u, instObj 611 du) :: R0)) : Led) := fun p hp => .tail _ (List.mem_append_right _ (.tail _ hp))
    have hU : UserS (MergeC LeafC) upto lo hi (ents.map Ent.row) ((du, UD q2 x upto lo hi 0 tg2 false #[] tk9 #[] tv9) :: fp) ((rl, listOf rvs rn) :: (nw ++ ((u, instObj 611 du) :: R0))) u none :=
      ⟨du, x, true, q2, none, 0, tg2, false, #[], tk9, #[], tv9, fp, rfl, (merge_spec (leaf_spec w)).mono hM sU, fun p hp => (g2 p (l1 p (List.mem_append_left _ hp))).2, .tail _ (List.mem_append_right _ (.head _)), rfl⟩
    have hoffU : Off ((du, UD q2 x upto lo hi 0 tg2 false #[] tk9 #[] tv9) :: fp) ((rl, listOf rvs rn) :: (nw ++ ((u, instObj 611 du) :: R0))) := by
      intro p hp r hr
      rcases List.mem_cons.mp hp with rfl | hp
      · rcases List.mem_cons.mp hr with rfl | hr
        · exact fun e => g5 e.symm
        · rcases List.mem_append.mp hr with hr | hr
          · exact fun e => (g6 r hr).2.2 e.symm
          · rcases List.mem_cons.mp hr with rfl | hr
            · exact g1
            · exact (g2 r (l1 r (List.mem_append_right _ hr))).2
      · have hp2 := l1 p (List.mem_append_left _ hp)
        rcases List.mem_cons.mp hr with rfl | hr
        · exact fun e => g3 p hp2 e.symm
        · rcases List.mem_append.mp hr with hr | hr
          · exact fun e => (g6 r hr).1 p hp2 e.symm
          · rcases List.mem_cons.mp hr with rfl | hr
            · exact fun e => (g2 p hp2).1 e.symm
            · exact hoff p hp r hr
    have hapU : ∀ p ∈ ((du, UD q2 x upto lo hi 0 tg2 false #[] tk9 #[] tv9) :: fp) ++ ((rl, listOf rvs rn) :: (nw ++ ((u, instObj 611 du) :: R0))), p.1 ≠ L + 1 + 1 + 1 + 1 ∧ p.1 ≠ L + 1 + 1 + 1 + 1 + 1 := by
      have mT := g2 (L + 1 + 1 + 1 + 1, oT) (.head _)
      have mS := g2 (L + 1 + 1 + 1 + 1 + 1, oS) (.tail _ (.head _))
      have rT := g3 (L + 1 + 1 + 1 + 1, oT) (.head _)
      have rS := g3 (L + 1 + 1 + 1 + 1 + 1, oS) (.tail _ (.head _))
      intro p hp
      rcases List.mem_append.mp hp with hp | hp
      · rcases List.mem_cons.mp hp with rfl | hp
        · exact ⟨fun e => mT.2 e.symm, fun e => mS.2 e.symm⟩
        · exact hap p (List.mem_append_left _ hp)
      · rcases List.mem_cons.mp hp with rfl | hp
        · exact ⟨fun e => rT e.symm, fun e => rS e.symm⟩
        · rcases List.mem_append.mp hp with hp | hp
          · exact ⟨fun e => (g6 p hp).1 _ (.head _) e.symm, fun e => (g6 p hp).1 _ (.tail _ (.head _)) e.symm⟩
          · rcases List.mem_cons.mp hp with rfl | hp
            · exact ⟨fun e => mT.1 e.symm, fun e => mS.1 e.symm⟩
            · exact hap p (List.mem_append_right _ hp)
    have hcE3 : (L + 1, oE) ∈ R0 := by rw [← hR0]; exact .tail _ (.tail _ (.head _))
    refine fin (R := R) (fp := (du, UD q2 x upto lo hi 0 tg2 false #[] tk9 #[] tv9) :: fp) (R0 := (rl, listOf rvs rn) :: (nw ++ ((u, instObj 611 du) :: R0))) B F3 X (news_of N4 fun p hp => ?_) T hPE XB TB spec hU (by decide) hoffU hT hS5 hapU (hn3.mono sU) ((g8 "nums" (by decide) (by decide)).trans e1) g9 ((g8 "merged" (by decide) (by decide)).trans e4) g10 (g7.mono fun p hp => ?_) hE (sU _ hcE3) (sU _ hl3) (he3.mono sU) hsz (fun h => (nomatch h)) (fun _ {fp E0 p} u t a1 a2 a3 a4 => user_seek2 uf u t a1 a2 a3 a4) k
    · rcases List.mem_cons.mp hp with rfl | hp
      · exact .tail _ (List.mem_append_right _ (.tail _ (.tail _ (.head _))))
      · rcases List.mem_cons.mp hp with rfl | hp
        · exact .tail _ (List.mem_append_right _ (.tail _ (.tail _ (.tail _ (.head _)))))
        · rcases List.mem_append.mp hp with hp | hp
          · rcases List.mem_cons.mp hp with rfl | hp
            · exact .tail _ (List.mem_append_right _ (.tail _ (.head _)))
            · exact .tail _ (List.mem_append_right _ (.tail _ (.tail _ (l1 p (List.mem_append_left _ hp)))))
          · rcases List.mem_cons.mp hp with rfl | hp
            · exact .head _
            · rcases List.mem_append.mp hp with hp | hp
              · exact .tail _ (List.mem_append_left _ hp)
              · rcases List.mem_cons.mp hp with rfl | hp
                · exact .tail _ (List.mem_append_right _ (.head _))
                · exact .tail _ (List.mem_append_right _ (.tail _ (.tail _ (l1 p (List.mem_append_right _ hp)))))
    · rcases List.mem_cons.mp hp with rfl | hp
      · exact .head _
      · exact .tail _ (List.mem_append_left _ hp)
end
open PySem PySem.W PyProof.Rows PySem.Spec
set_option maxRecDepth 100000
theorem lawTail2 : lawTail 2 = lawAt 2 :: lawAt 3 :: lawAt 4 :: lawAt 5 :: lawAt 6 :: lawAt 7 :: lawAt 8 :: lawAt 9 :: lawAt 10 :: lawAt 11 :: lawAt 12 :: lawAt 13 :: lawAt 14 :: lawAt 15 :: lawAt 16 :: lawAt 17 :: lawAt 18 :: lawAt 19 :: lawAt 20 :: lawTail 21 := rfl
section
variable {w : World} {A₀ : Around} {base h₀ : Heap} {L a : Addr} {ccd : Value} {m mg mb : Str → Option Value} {mean : ExcName → Option Value} {s : Shared} {rest led : Led} {Q : Flow → Shared → Prop} {E : Value → Shared → Prop} {R : List Stmt}
set_option maxHeartbeats 8000000 in
theorem glue {nl : Addr} {vs : Array Value} {n kk : Nat} {oE oF oC oT oS : Obj} {vE vF vC vT vS : Option Value} {led0 : Led} (B : Below A₀ base [] h₀) (F : Fr h₀ L s.heap m) (X : (Mine.hd.heap_39 w.params).In h₀) (N : News h₀ L s.heap ((L + 1, oE) :: (L + 1 + 1, oF) :: (L + 1 + 1 + 1, oC) :: (L + 1 + 1 + 1 + 1, oT) :: (L + 1 + 1 + 1 + 1 + 1, oS) :: led0)) (T : Top VW (looseW VW []) mean mg mb h₀) (hPE : PassesOwn (model Challenge.rw_no0415_01.row.prog w) (callerA.deeper (envOfC (Str.ofString "law") lawSc L a ccd)) (envOfC (Str.ofString "law") lawSc L a ccd) E)
    (XB : (Mine.hd.heap_39 w.params).In base) (TB : Top VW (looseW VW []) mean mg mb base) (hE : oE.data = .cell vE) (hF : oF.data = .cell vF) (hC : oC.data = .cell vC) (hT : oT.data = .cell vT) (hS : oS.data = .cell vS) (hap1 : ∀ p ∈ led0, p.1 ≠ L + 1) (hn : NumsIn led0 nl vs n kk) (e1 : m "nums" = some (.ref nl))
    (k : ∀ m' h' tk' led, Fr h₀ L h' m' → News h₀ L h' led → wpAny (model Challenge.rw_no0415_01.row.prog w) (callerA.deeper (envOfC (Str.ofString "law") lawSc L a ccd)) (execs (lawTail 21) (envOfC (Str.ofString "law") lawSc L a ccd)) Q E { s with heap := h', toks := tk' }) :
    wpAny (model Challenge.rw_no0415_01.row.prog w) (callerA.deeper (envOfC (Str.ofString "law") lawSc L a ccd)) (execs (lawTail 2) (envOfC (Str.ofString "law") lawSc L a ccd)) Q E s := by
  rw [lawTail2]
  refine st234 B F X N T (hn.mono fun p hp => .tail _ (.tail _ (.tail _ (.tail _ (.tail _ hp))))) e1 ?_
  intro z tz wk cnt tc m1 h1 tk1 hz0 hz1 hc0 hc3 hm1 x1 x2 x3 F1 N1
  refine st5 B F1 X N1 T x1 hz0 hz1 ?_
  intro uv ut h2 tk2 hu0 hu1 F2 N2
  refine st6 B F2 X N2 T x1 hz0 hz1 ?_
  intro lo lt9 h3 tk3 hlo F3 N3
  refine st7 B F3 X N3 T x1 hz0 hz1 ?_
  intro hi ht9 h4 tk4 hhi F4 N4
  have hr8 : ∀ p ∈ ((L + 1 + 1, oF) :: (L + 1 + 1 + 1, oC) :: (L + 1 + 1 + 1 + 1, oT) :: (L + 1 + 1 + 1 + 1 + 1, oS) :: led0 : Led), p.1 ≠ L + 1 := fun p hp => by
    rcases List.mem_cons.mp hp with rfl | hp
    · exact (Nat.ne_of_lt (show @LT.lt Nat _ (L + 1) (L + 1 + 1) by omega)).symm
    · rcases List.mem_cons.mp hp with rfl | hp
      · exact (Nat.ne_of_lt (show @LT.lt Nat _ (L + 1) (L + 1 + 1 + 1) by omega)).symm
      · rcases List.mem_cons.mp hp with rfl | hp
        · exact (Nat.ne_of_lt (show @LT.lt Nat _ (L + 1) (L + 1 + 1 + 1 + 1) by omega)).symm
        · rcases List.mem_cons.mp hp with rfl | hp
          · exact (Nat.ne_of_lt (show @LT.lt Nat _ (L + 1) (L + 1 + 1 + 1 + 1 + 1) by omega)).symm
          · exact hap1 p hp
  refine st8 (rest := (L + 1 + 1, oF) :: (L + 1 + 1 + 1, oC) :: (L + 1 + 1 + 1 + 1, oT) :: (L + 1 + 1 + 1 + 1 + 1, oS) :: led0) B F4 X N4 T hE hr8 ?_
  intro el oE' k0 h5 tk5 dE hLe hlt F5 N5
  refine st9 (el := el) (rest := (L + 1 + 1, oF) :: (L + 1 + 1 + 1, oC) :: (L + 1 + 1 + 1 + 1, oT) :: (L + 1 + 1 + 1 + 1 + 1, oS) :: led0) B F5 X N5 T hPE (hn.mono fun p hp => .tail _ (.tail _ (.tail _ (.tail _ hp)))) ((hm1 "nums" (by decide) (by decide) (by decide)).trans e1) x3 hc0 hc3 dE hLe hr8 hlt ?_
  intro ws n' tl ents m6 h6 tk6 J9 hm6 F6 N6
  have hr10 : ∀ p ∈ ((el, listOf ws n') :: tl : Led), p.1 ≠ L + 1 := fun p hp => by
    rcases List.mem_cons.mp hp with rfl | hp
    · exact (Nat.ne_of_lt hLe).symm
    · exact (J9.off p hp).2
  refine st10 (el := el) (vs := ws) (n := n') (ents := ents) (led := (el, listOf ws n') :: tl) B F6 X (news_of N6 fun p hp => ?_) T dE (.head _) hr10 (J9.inn.mono fun p hp => .tail _ hp) (J9.some (by decide)) J9.len J9.pw ?_
  · rcases List.mem_cons.mp hp with rfl | hp
    · exact .tail _ (.head _)
    · rcases List.mem_cons.mp hp with rfl | hp
      · exact .head _
      · exact .tail _ (.tail _ hp)
  intro D oE2 c2 vs2 ents2 h7 tk7 dE2 gl gm gpw gin gD1 gD2 F7 N7
  refine st11 B F7 X N7 T ?_
  intro od led11 h8 tk8 hO hs11 hn11 F8 N8
  have htl : ∀ p ∈ tl, p ∈ led11 := fun p hp => hs11 p (.tail _ (.tail _ (.tail _ hp)))
  have mE := hs11 _ (.tail _ (.head _))
  have mF := htl _ (J9.sub _ (.head _))
  have mC := htl _ (J9.sub _ (.tail _ (.head _)))
  have mT := htl _ (J9.sub _ (.tail _ (.tail _ (.head _))))
  have mS := htl _ (J9.sub _ (.tail _ (.tail _ (.tail _ (.head _)))))
  have aF := nc_apart N8 mF hF
  have hok2 : ∀ e ∈ ents2, e.Ok cnt := fun e he => J9.ok e (gm e he)
  have hsz2 : ents2.length ≤ 5 := by rw [gl]; exact J9.len
  have gin2 : EntsIn (nc led11) vs2 ents2 := (gin.mono fun p hp => hs11 p (.tail _ (.tail _ hp))).nc
  have hn2 : NumsIn (nc led11) nl vs n kk := (hn.mono fun p hp => htl _ (J9.sub _ (.tail _ (.tail _ (.tail _ (.tail _ hp)))))).nc
  have sub4 : ∀ p ∈ nc led11, p ∈ ((L + 1, oE2) :: (L + 1 + 1 + 1, oC) :: (L + 1 + 1 + 1 + 1, oT) :: (L + 1 + 1 + 1 + 1 + 1, oS) :: nc led11 : Led) := fun p hp => .tail _ (.tail _ (.tail _ (.tail _ hp)))
  refine st12 (el := D) (vs := vs2) (n := c2) (ents := ents2) (cnt := cnt) (oE := oE2) (oF := oF) (led := (L + 1, oE2) :: (L + 1 + 1 + 1, oC) :: (L + 1 + 1 + 1 + 1, oT) :: (L + 1 + 1 + 1 + 1 + 1, oS) :: nc led11) B F8 X (news_of N8 fun p hp => ?_) T dE2 (.head _) hF (sub4 _ (mem_nc (hs11 _ (.head _)) rfl)) (fun p hp => ?_) (gin2.mono sub4) hok2 hsz2 ?_
  · rcases List.mem_cons.mp hp with rfl | hp
    · exact mF
    · rcases List.mem_cons.mp hp with rfl | hp
      · exact mE
      · rcases List.mem_cons.mp hp with rfl | hp
        · exact mC
        · rcases List.mem_cons.mp hp with rfl | hp
          · exact mT
          · rcases List.mem_cons.mp hp with rfl | hp
            · exact mS
            · exact nc_sub p hp
  · rcases List.mem_cons.mp hp with rfl | hp
    · exact Nat.ne_of_lt (show @LT.lt Nat _ (L + 1) (L + 1 + 1) by omega)
    · rcases List.mem_cons.mp hp with rfl | hp
      · exact (Nat.ne_of_lt (show @LT.lt Nat _ (L + 1 + 1) (L + 1 + 1 + 1) by omega)).symm
      · rcases List.mem_cons.mp hp with rfl | hp
        · exact (Nat.ne_of_lt (show @LT.lt Nat _ (L + 1 + 1) (L + 1 + 1 + 1 + 1) by omega)).symm
        · rcases List.mem_cons.mp hp with rfl | hp
          · exact (Nat.ne_of_lt (show @LT.lt Nat _ (L + 1 + 1) (L + 1 + 1 + 1 + 1 + 1) by omega)).symm
          · exact aF p hp
  intro fl oF2 led12 fvs n12 h9 tk9 dF2 hG hap12 hfL F9 N9
  refine st13 B F9 X N9 T ?_
  intro pl h10 tk10 hpl F10 N10
  have N12 := news_of N10 (b := led12) fun p hp => .tail _ (.tail _ hp)
  have qE := hG.sub _ (.head _)
  have qC := hG.sub _ (.tail _ (.head _))
  have qT := hG.sub _ (.tail _ (.tail _ (.head _)))
  have qS := hG.sub _ (.tail _ (.tail _ (.tail _ (.head _))))
  have aC := nc_apart N12 qC hC
  have s12 : ∀ p ∈ nc led11, p ∈ led12 := fun p hp => hG.sub p (sub4 p hp)
  have s14 : ∀ p ∈ nc led12, p ∈ ((L + 1, oE2) :: (L + 1 + 1, oF2) :: (L + 1 + 1 + 1 + 1, oT) :: (L + 1 + 1 + 1 + 1 + 1, oS) :: nc led12 : Led) := fun p hp => .tail _ (.tail _ (.tail _ (.tail _ hp)))
  have hO12 : OrdIn ((L + 1, oE2) :: (L + 1 + 1, oF2) :: (L + 1 + 1 + 1 + 1, oT) :: (L + 1 + 1 + 1 + 1 + 1, oS) :: nc led12) od := ((hO.nc.mono s12).nc).mono s14
  have he14 : EntsIn ((L + 1, oE2) :: (L + 1 + 1, oF2) :: (L + 1 + 1 + 1 + 1, oT) :: (L + 1 + 1 + 1 + 1 + 1, oS) :: nc led12) vs2 ents2 := ((gin2.mono s12).nc).mono s14
  have hn14 : NumsIn ((L + 1, oE2) :: (L + 1 + 1, oF2) :: (L + 1 + 1 + 1 + 1, oT) :: (L + 1 + 1 + 1 + 1 + 1, oS) :: nc led12) nl vs n kk := ((hn2.mono s12).nc).mono s14
  have hl14 : (D, listOf vs2 c2) ∈ ((L + 1, oE2) :: (L + 1 + 1, oF2) :: (L + 1 + 1 + 1 + 1, oT) :: (L + 1 + 1 + 1 + 1 + 1, oS) :: nc led12 : Led) := s14 _ (mem_nc (s12 _ (mem_nc (hs11 _ (.head _)) rfl)) rfl)
  have hpE : @LT.lt Nat _ (L + 1) pl := hpl _ (.tail _ qE)
  have hpF : @LT.lt Nat _ (L + 1 + 1) pl := hpl _ (.head _)
  have hpC : @LT.lt Nat _ (L + 1 + 1 + 1) pl := hpl _ (.tail _ qC)
  have hpT : @LT.lt Nat _ (L + 1 + 1 + 1 + 1) pl := hpl _ (.tail _ qT)
  have hpS : @LT.lt Nat _ (L + 1 + 1 + 1 + 1 + 1) pl := hpl _ (.tail _ qS)
  refine st14 (n0 := 0) (el := D) (fl := fl) (pl := pl) (od := od) (vs := vs2) (n := c2) (fvs := fvs) (n' := n12) (cnt := cnt) (ents := ents2) (oE := oE2) (oF := oF2) (oC := oC) (rest := (L + 1, oE2) :: (L + 1 + 1, oF2) :: (L + 1 + 1 + 1 + 1, oT) :: (L + 1 + 1 + 1 + 1 + 1, oS) :: nc led12) B F10 X (news_of N10 fun p hp => ?_) T hPE rfl ((hm6 "count" (by decide) (by decide) (by decide) (by decide)).trans x3) rfl hc3 dE2 (.head _) dF2 (.tail _ (.head _)) hC (fun p hp => ?_) (Nat.ne_of_gt hpC) hl14 he14 (hfL.nc.mono s14) hO12 hok2 hsz2 (ents_pw gpw fun e he => (hok2 e he).k) ?_
  · rcases List.mem_cons.mp hp with rfl | hp
    · exact .tail _ (.tail _ qC)
    · rcases List.mem_cons.mp hp with rfl | hp
      · exact .head _
      · rcases List.mem_cons.mp hp with rfl | hp
        · exact .tail _ (.tail _ qE)
        · rcases List.mem_cons.mp hp with rfl | hp
          · exact .tail _ (.head _)
          · rcases List.mem_cons.mp hp with rfl | hp
            · exact .tail _ (.tail _ qT)
            · rcases List.mem_cons.mp hp with rfl | hp
              · exact .tail _ (.tail _ qS)
              · exact .tail _ (.tail _ (nc_sub p hp))
  · rcases List.mem_cons.mp hp with rfl | hp
    · exact ⟨Nat.ne_of_lt hpE, Nat.ne_of_lt (show @LT.lt Nat _ (L + 1) (L + 1 + 1 + 1) by omega)⟩
    · rcases List.mem_cons.mp hp with rfl | hp
      · exact ⟨Nat.ne_of_lt hpF, Nat.ne_of_lt (show @LT.lt Nat _ (L + 1 + 1) (L + 1 + 1 + 1) by omega)⟩
      · rcases List.mem_cons.mp hp with rfl | hp
        · exact ⟨Nat.ne_of_lt hpT, (Nat.ne_of_lt (show @LT.lt Nat _ (L + 1 + 1 + 1) (L + 1 + 1 + 1 + 1) by omega)).symm⟩
        · rcases List.mem_cons.mp hp with rfl | hp
          · exact ⟨Nat.ne_of_lt hpS, (Nat.ne_of_lt (show @LT.lt Nat _ (L + 1 + 1 + 1) (L + 1 + 1 + 1 + 1 + 1) by omega)).symm⟩
          · exact ⟨Nat.ne_of_lt (hpl p (.tail _ (nc_sub p hp))), aC p hp⟩
  intro pvs np oC2 vC2 tl2 ks m11 h11 tk11 P hm11 dC2 F11 N11
  have g : ∀ y : Str, y ≠ "mine" → y ≠ "parts" → y ≠ "order" → y ≠ "i" → y ≠ "x" → y ≠ "kind" → y ≠ "head" → y ≠ "high" → y ≠ "low" → y ≠ "upto" → m11 y = m1 y := fun y a1 a2 a3 a4 a5 a6 a7 a8 a9 a10 => by
    rw [hm11 y a1]
    simp only [if_neg a2, if_neg a3]
    rw [hm6 y a4 a5 a6 a7]
    simp only [if_neg a8, if_neg a9, if_neg a10]
  exact glueB (wk := wk) B F11 X N11 T hPE XB TB P (.head _) (.tail _ (.head _)) (.tail _ (.tail _ (.head _))) (.tail _ (.tail _ (.tail _ (.head _)))) dE2 dF2 dC2 hT hS (Nat.ne_of_gt hpT) (Nat.ne_of_gt hpS) hl14 he14 (hfL.nc.mono s14) hO12 hn14 hok2 hc3 hsz2 gpw
    ((g "nums" (by decide) (by decide) (by decide) (by decide) (by decide) (by decide) (by decide) (by decide) (by decide) (by decide)).trans ((hm1 "nums" (by decide) (by decide) (by decide)).trans e1))
    ((hm11 "parts" (by decide)).trans rfl) ((hm11 "order" (by decide)).trans rfl)
    ((g "merged" (by decide) (by decide) (by decide) (by decide) (by decide) (by decide) (by decide) (by decide) (by decide) (by decide)).trans x2)
    ((hm11 "upto" (by decide)).trans ((hm6 "upto" (by decide) (by decide) (by decide) (by decide)).trans rfl))
    ((hm11 "low" (by decide)).trans ((hm6 "low" (by decide) (by decide) (by decide) (by decide)).trans rfl))
    ((hm11 "high" (by decide)).trans ((hm6 "high" (by decide) (by decide) (by decide) (by decide)).trans rfl))
    hu0 hu1 hlo hhi k
end
open PySem PySem.W PyProof.Rows PySem.Spec
set_option maxRecDepth 100000
set_option hygiene false in
local macro_rules | `(tactic| walk_at "mine stepsX") => `(tactic| repeat' (first | ((fail_if_success (with_reducible show wpAny _ _ (execs (PySem.Stmt.Assign [PySem.Expr.Name (PySem.Str.ofString "setup") _] _ _ :: _) _) _ _ _)); (first | (k_unfold; (try dsimp only)) | walk1 | (dsimp only; walk1) | (leave1; walk_say "STEP leave1"; (try dsimp only)) | fail "no step"))))
theorem reordA {h₀ h : Heap} {L : Addr} {a b c s5 s4 s3 s2 s1 : Addr × Obj} (N : News h₀ L h [a, b, c, s5, s4, s3, s2, s1]) : News h₀ L h [s1, s2, s3, s4, s5, a] := news_of N fun p hp => by
  simp only [List.mem_cons, List.not_mem_nil, or_false] at hp ⊢
  rcases hp with h | h | h | h | h | h <;> simp [h]
theorem reordB {h₀ h : Heap} {L : Addr} {a c s5 s4 s3 s2 s1 : Addr × Obj} (N : News h₀ L h [a, c, s5, s4, s3, s2, s1]) : News h₀ L h [s1, s2, s3, s4, s5, a] := news_of N fun p hp => by
  simp only [List.mem_cons, List.not_mem_nil, or_false] at hp ⊢
  rcases hp with h | h | h | h | h | h <;> simp [h]
theorem ap_one {h₀ h : Heap} {L c : Addr} {o : Obj} {v : Option Value} {p1 p2 p3 p4 a : Addr × Obj} (N : News h₀ L h [(c, o), p1, p2, p3, p4, a]) (hd : o.data = .cell v) (ha : isCell a.2 = false) : ∀ p ∈ [a], p.1 ≠ c := fun p hp => by
  rw [List.mem_singleton.mp hp]
  exact nc_apart N (.head _) hd a (mem_nc (by simp) ha)
theorem nums_one {nl : Addr} {t : Tok} {n : Nat} : NumsIn [(nl, listOf #[Value.int 9 t] n)] nl #[Value.int 9 t] n 1 :=
  ⟨.head _, rfl, by decide, by decide, fun i v hi => by
    match i, hi with
    | 0, hi => cases hi; exact ⟨9, t, rfl, by decide, by decide⟩
    | i + 1, hi => simp at hi⟩
theorem nums_all {nl : Addr} {ys : List Value} {sc : List Int} (hi : IntsAre ys (List.map (fun k => k.fmod 999983) (List.take 12 sc))) (h0 : ys.length ≠ 0) : NumsIn [(nl, listOf ys.toArray ys.length)] nl ys.toArray ys.length ys.length := by
  have hl := hi.length
  rw [List.length_map, List.length_take] at hl
  refine ⟨.head _, by simp, by omega, by omega, fun i v hv => ?_⟩
  obtain ⟨x, t, rfl, hx⟩ := hi.at i v (by simpa using hv)
  rw [List.getElem?_map] at hx
  obtain ⟨z, _, hz⟩ := Option.map_eq_some_iff.mp hx
  subst hz
  exact ⟨_, t, rfl, Int.fmod_nonneg_of_pos _ (by decide), Int.fmod_lt_of_pos _ (by decide)⟩
local macro_rules | `(tactic| walk_at "mine open21") => `(tactic| ((conv in (occs := *) lawSc => all_goals whnf); (conv in (lawTail _) => whnf)))
set_option maxHeartbeats 8000000 in
theorem foo : PySem.Challenge.rw_no0415_01.Holds := Mine.hd (by
  k_go0
  all_goals (try k_fold)
  walk_at "mine stepsX"
  all_goals
    rename Fr _ _ _ _ => FF
    rename News _ _ _ _ => NN
  · have N2 := reordA NN
    refine glue (n := 0) (kk := 1) (by assumption) FF (by assumption) N2 (by assumption) (by passes_own) (by assumption) (by assumption) (by assumption) (by assumption) (by assumption) (by assumption) (by assumption) (ap_one N2 (by assumption) rfl) nums_one rfl ?_
    clear FF NN N2
    intro m' h' tk' led F' N'
    walk_at "mine open21"
    k_steps
  · have N2 := reordB NN
    rename (_ : Int) ≠ 0 => h0
    refine glue (by assumption) FF (by assumption) N2 (by assumption) (by passes_own) (by assumption) (by assumption) (by assumption) (by assumption) (by assumption) (by assumption) (by assumption) (ap_one N2 (by assumption) rfl) (nums_all (by assumption) (by have hl8 := ‹List.length _ = List.length _›; omega)) rfl ?_
    clear FF NN N2
    intro m' h' tk' led F' N'
    walk_at "mine open21"
    k_steps)
end Mine
set_option maxRecDepth 100000 in
set_option maxHeartbeats 8000000 in
theorem PySem.Challenge.cw_no0415_01_holds : PySem.Challenge.rw_no0415_01.Holds := by
  exact Mine.foo
