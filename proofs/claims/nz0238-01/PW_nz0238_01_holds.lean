import PyProof.Rows.All
import Wide.All
import OpenK.AllK
import Wide.FinOn
import PySem.Challenge.RW_nz0238_01
set_option Elab.async false
set_option rowWalk.seconds 0

section
open PySem PySem.W PyProof.Rows
namespace Mine
set_option maxRecDepth 100000 in
set_option maxHeartbeats 8000000 in
open_top headT for PySem.Challenge.rw_nz0238_01
end Mine
end

section
open PySem PySem.W PySem.Calls PyProof.Rows
namespace Mine

theorem fill (w : World) : PySem.Challenge.rw_nz0238_01 = PySem.Challenge.rw_nz0238_01 ∧ headT.heap_39 w.params = headT.heap_39 w.params := by
  k_fill
  exact ⟨rfl, rfl⟩

/-- what a def's caller is handed -/
def RetT (h₀ : Heap) (L : Addr) (m : Str → Option Value) (news : List (Addr × Obj)) (s : Shared) (Q : Value → Shared → Prop) (Out : List (Addr × Obj) → Value → Prop) : Prop :=
  ∀ r tl h' tk', Fr h₀ L h' m → News h₀ L h' (tl ++ news) → (∀ p ∈ news, ∀ q ∈ tl, p.1 < q.1) → Out tl r → Q r { s with heap := h', toks := tk' }

/-- the contract of a def that stores into nothing that stood: it hands on a value and new objects -/
def Ctr (w : World) (mean : ExcName → Option Value) (mg mb : Str → Option Value) (d : Nat) (f : Addr) (vs : List Value) (pre : List (Addr × Obj) → Prop) (Out : List (Addr × Obj) → Value → Prop) : Prop :=
  ∀ (dp un : Nat) (gd : Option (List Code)) (cn : Str) (cs : Scope) (a : Addr) (ccd : Value) (cl : List (Str × Addr)) (outer : List Env) (A₀ : Around) (base h₀ : Heap) (L : Addr) (m : Str → Option Value) (news : List (Addr × Obj)) (s : Shared) (Q E : Value → Shared → Prop),
    Below A₀ base outer h₀ → Fr h₀ L s.heap m → (headT.heap_39 w.params).In h₀ → News h₀ L s.heap news → Top headT.view_39 (looseW headT.view_39 [Str.ofString "Piece"]) mean mg mb h₀ → cs.kind = .function → dp + d < recursionLimit → un + 8 * d < cLine → pre news →
    RetT h₀ L m news s Q Out →
    wpAny (model PySem.Challenge.rw_nz0238_01.row.prog w) (ktrTop dp un gd cn cs L a ccd cl outer) (call (.ref f) vs) Q E s

/-- a halt of the walk's own: behind it one goes on by hand -/
def Stop (P : Prop) : Prop := P
theorem stop_here {P : Prop} (h : Stop P) : P := h

section
variable {w : World} {mean : ExcName → Option Value} {mg mb : Str → Option Value}

theorem ctr_use {d : Nat} {f : Addr} {vs : List Value} {pre : List (Addr × Obj) → Prop} {Out : List (Addr × Obj) → Value → Prop} {dp un : Nat} {gd : Option (List Code)} {cn : Str} {cs : Scope} {a : Addr} {ccd : Value} {cl : List (Str × Addr)} {outer : List Env} {A₀ : Around} {base h₀ : Heap} {L : Addr} {m : Str → Option Value} {news : List (Addr × Obj)} {s : Shared} {Q E : Value → Shared → Prop}
    (C : Ctr w mean mg mb d f vs pre Out) (B : Below A₀ base outer h₀) (F : Fr h₀ L s.heap m) (X : (headT.heap_39 w.params).In h₀) (N : News h₀ L s.heap news) (T : Top headT.view_39 (looseW headT.view_39 [Str.ofString "Piece"]) mean mg mb h₀) (hk : cs.kind = .function) (hdp : dp + d < recursionLimit) (hun : un + 8 * d < cLine) (hp : pre news)
    (ret : ∀ r tl h' tk', Fr h₀ L h' m → News h₀ L h' (tl ++ news) → (∀ p ∈ news, ∀ q ∈ tl, p.1 < q.1) → Out tl r → Q r { s with heap := h', toks := tk' }) :
    wpAny (model PySem.Challenge.rw_nz0238_01.row.prog w) (ktrTop dp un gd cn cs L a ccd cl outer) (call (.ref f) vs) Q E s := C _ _ _ _ _ _ _ _ _ _ _ _ _ _ _ _ _ _ B F X N T hk hdp hun hp ret

theorem no_lt {news : List (Addr × Obj)} : ∀ p ∈ news, ∀ q ∈ ([] : List (Addr × Obj)), p.1 < q.1 := fun _ _ _ hq => nomatch hq

theorem ret_end {h₀ : Heap} {L : Addr} {m : Str → Option Value} {news news' : List (Addr × Obj)} {s : Shared} {Q : Value → Shared → Prop} {Out : List (Addr × Obj) → Value → Prop} {r : Value} {tl : List (Addr × Obj)} {h' : Heap} {tk' : Nat}
    (hret : RetT h₀ L m news s Q Out) (F : Fr h₀ L h' m) (N : News h₀ L h' news') (hs : ∀ p ∈ tl ++ news, p ∈ news') (hl : ∀ p ∈ news, ∀ q ∈ tl, p.1 < q.1) (ho : Out tl r) : Q r { s with heap := h', toks := tk' } :=
  hret r tl h' tk' F (fun p hp => N p (hs p hp)) hl ho

theorem ret_end1 {h₀ : Heap} {L : Addr} {m : Str → Option Value} {news news' : List (Addr × Obj)} {s : Shared} {Q : Value → Shared → Prop} {Out : List (Addr × Obj) → Value → Prop} {D : Addr} {o : Obj} {h' : Heap} {tk' : Nat}
    (hret : RetT h₀ L m news s Q Out) (F : Fr h₀ L h' m) (N : News h₀ L h' ((D, o) :: news')) (hs : ∀ p ∈ news, p ∈ news') (hl : ∀ p ∈ news, p.1 < D) (ho : Out [(D, o)] (.ref D)) : Q (.ref D) { s with heap := h', toks := tk' } :=
  hret _ [(D, o)] h' tk' F (fun p hp => N p (by
    rcases List.mem_cons.mp hp with rfl | hp
    · exact .head _
    · exact .tail _ (hs p hp))) (fun p hp q hq => by rw [List.mem_singleton.mp hq]; exact hl p hp) ho

local macro_rules | `(tactic| walk_at "Mine.ret") => `(tactic| (refine' ret_end (tl := []) ?k1 ?k2 ?k3 ?k4 no_lt ?_; (case k1 => assumption); (case k2 => k_asm); (case k3 => assumption); (case k4 => (simp only [List.nil_append]; kcj_all)); refine And.intro rfl ?_))

theorem c_is_restart (n : Int) (t : Tok) :
    Ctr w mean mg mb 1 21 [.int n t] (fun _ => True) (fun tl r => tl = [] ∧ r = .bool (decide (208 ≤ n ∧ n ≤ 215))) := by
  unfold Ctr
  intro dp un gd cn cs a ccd cl outer A₀ base h₀ L m news s Q E B F X N T hk hdp hun hpre hret
  w_top off
  k_with_none
  refine wpAny_call ?_
  k_dflt ktr_enter
  k_steps
  all_goals (walk_at "Mine.ret"; refine congrArg Value.bool ?_)
  all_goals (simp; omega)

local macro_rules | `(tactic| walk_at "call ref") => `(tactic| (k_here; k_dflt (refine' ctr_use (c_is_restart _ _) ?k1 ?k2 ?k3 ?k4 ?k5 ?kK ?kd ?ku ?kp ?_); (case k1 => k_asm); (case k2 => k_asm); (case k3 => k_asm); (case k4 => k_asm); (case k5 => k_asm); (case kK => first | exact rfl | assumption); (case kd => ktr_room); (case ku => ktr_units); (case kp => trivial); intro r9 tl9 h9 tk9 F9 N9 l9 o9; obtain ⟨o1, o2⟩ := o9; subst o1; subst o2; (simp only [List.nil_append] at N9); clear l9; (try dsimp only); (try k_fold)))

def hasLen (n : Int) : Bool := decide (n ≠ 216 ∧ n ≠ 217 ∧ n ≠ 1 ∧ ¬ (208 ≤ n ∧ n ≤ 215))

theorem c_has_length (n : Int) (t : Tok) :
    Ctr w mean mg mb 2 28 [.int n t] (fun _ => True) (fun tl r => tl = [] ∧ r = .bool (hasLen n)) := by
  unfold Ctr
  intro dp un gd cn cs a ccd cl outer A₀ base h₀ L m news s Q E B F X N T hk hdp hun hpre hret
  w_top off
  k_with_none
  refine wpAny_call ?_
  k_dflt ktr_enter
  k_steps
  all_goals (walk_at "Mine.ret"; refine congrArg Value.bool ?_)
  · (with_reducible rename List.any _ _ = _ => hx)
    simp only [List.any_cons, List.any_nil, Bool.or_false, Bool.or_eq_true, beq_iff_eq] at hx
    rcases hx with rfl | rfl | rfl <;> decide
  · (with_reducible rename List.any _ _ = _ => hx)
    have e : n ≠ 216 ∧ n ≠ 217 ∧ n ≠ 1 := by
      refine ⟨?_, ?_, ?_⟩ <;> (rintro rfl; revert hx; decide)
    rw [← decide_not]
    refine decide_eq_decide.mpr ⟨fun h => ⟨e.1, e.2.1, e.2.2, h⟩, fun h => h.2.2.2⟩
end
end Mine
end

section
set_option maxRecDepth 100000
namespace Mine
open PySem PySem.W PySem.Calls PyProof.Rows
theorem bb_look : typeLookup (.type "bytes") "__bytes__" = pure (some (.builtin "bytes.__bytes__")) := by rw [typeLookup_type, builtinLookup_eq_fast]; kernel_rfl
section
variable {prog : Program} {w : World} {A : Around} {E : Value → Shared → Prop} {s : Shared}
theorem bb_new {b : Array UInt8} {t : Tok} {Q : Value → Shared → Prop} (hQ : Q (.bytes b t) s) :
    codeAny (model prog w) A (.call (.builtin "bytes.__new__") ⟨[.type "bytes", .bytes b t], []⟩) (wants Q E) s := by
  refine codeAny_of_tree ?_
  show wpAny _ A.in1 (do checkBuiltinCall "bytes.__new__" ⟨[.type "bytes", .bytes b t], []⟩; again (.builtin "bytes.__new__" ⟨[.type "bytes", .bytes b t], []⟩)) _ _ s
  refine wpAny_bind (wpAny_of_eq (F.bm_newCall _) (wpAny_pure ⟨plainId_quiet F.bm_plain _, codeAny_builtin F.bm_entry ?_⟩))
  rw [Around.under_plainId F.bm_plain _]
  have hT : s.TypeIs (.bytes b t) "bytes" := typeIs_bytes s b t
  unfold Builtin.«bytes.__new__»
  refine wpAny_bind (wpAny_of_eq (a := true) rfl ?_)
  refine bm_if_false rfl ?_
  refine wpAny_bind (wpAny_of_eq F.bm_sub ?_)
  refine bm_if_false rfl ?_
  refine wpAny_bind (wpAny_of_eq (F.bm_bind _) ?_)
  refine wpAny_bind (wpAny_of_eq (a := ()) rfl ?_)
  refine wpAny_bind (wpAny_of_eq (a := ()) rfl ?_)
  refine bm_if_false rfl ?_
  refine wpAny_bind (wpAny_specialOf hT bb_look ?_)
  refine wpAny_bind (wpAny_rule ?_)
  refine wpAny_bind (wpAny_typeOf hT ?_)
  refine bm_if_true (by decide) ?_
  show wpAny _ _ (if (Value.type "bytes" == Value.type "bytes") = true then _ else _) _ _ _
  refine bm_if_true (by decide) ?_
  first
    | exact wpAny_pure hQ
    | exact wpAny_bind (wpAny_pure (wpAny_pure hQ))
theorem call_bytes_bytes {b : Array UInt8} {t : Tok} {Q : Value → Shared → Prop} (hQ : Q (.bytes b t) s) : wpAny (model prog w) A (call (.type "bytes") [.bytes b t]) Q E s := by
  refine callType_codes (Q₁ := fun obj s₁ => s₁.TypeIs obj "bytes" ∧ Q obj s₁) F.bm_called (F.bm_typeCall _) F.entry_object_init
    (bb_new ⟨PySem.W.typeIs_bytes _ _ _, hQ⟩) fun obj s₁ h₁ => ?_
  exact ⟨h₁.1, F.args_object_init_2 obj _, object_init_meets F.bm_called.init.lookup F.bm_called.made (by decide) prog w A.in1 _ s₁ ⟨h₁.1, rfl, h₁.2⟩⟩
end
end Mine
end

section
open PySem PySem.W PySem.Calls PyProof.Rows
namespace Mine
/-- is a place that of a marker's 0xFF -/
def isM (ks : List Int) (n : Int) : Bool := decide (ks.getD n.toNat 0 = 255) && !decide (ks.getD (n + 1).toNat 0 = 0) && !decide (ks.getD (n + 1).toNat 0 = 255)

/-- the next marker from a place on -/
def nextM (ks : List Int) (n : Int) : Option Int :=
  if n + 1 < (ks.length : Int) then (if isM ks n = true then some n else nextM ks (n + 1)) else none
termination_by ((ks.length : Int) - n).toNat
decreasing_by omega

/-- the place behind a segment -/
def behindS (ks : List Int) (n : Int) : Option Int :=
  if n + 4 > (ks.length : Int) then none
  else if n + 4 ≤ n + 2 + ks.getD (n + 2).toNat 0 * 256 + ks.getD (n + 3).toNat 0 ∧ n + 2 + ks.getD (n + 2).toNat 0 * 256 + ks.getD (n + 3).toNat 0 ≤ (ks.length : Int) then some (n + 2 + ks.getD (n + 2).toNat 0 * 256 + ks.getD (n + 3).toNat 0) else none

def isEnd (ks : List Int) (n : Int) : Bool :=
  if ks.getD (n + 1).toNat 0 = 217 then true
  else if hasLen (ks.getD (n + 1).toNat 0) = false ∨ ks.getD (n + 1).toNat 0 < 192 then false
  else match behindS ks n with
    | none => false
    | some e => decide (ks.getD (n + 1).toNat 0 = 218) || decide (e = (ks.length : Int)) || decide (ks.getD e.toNat 0 = 255)

theorem nextM_some {ks : List Int} {n i : Int} (h : nextM ks n = some i) : n ≤ i ∧ i + 1 < (ks.length : Int) ∧ isM ks i = true := by
  induction n using nextM.induct (ks := ks) with
  | case1 n hn hm => rw [nextM, if_pos hn, if_pos hm] at h; cases h; exact ⟨by omega, hn, hm⟩
  | case2 n hn hm ih => rw [nextM, if_pos hn, if_neg hm] at h; have := ih h; exact ⟨by omega, this.2⟩
  | case3 n hn => rw [nextM, if_neg hn] at h; cases h

/-- the place behind the data of a scan -/
def dataEnd (ks : List Int) (n : Int) : Int :=
  match h : nextM ks n with
  | none => (ks.length : Int)
  | some i => if isEnd ks i = true then i else dataEnd ks (i + 2)
termination_by ((ks.length : Int) - n).toNat
decreasing_by have := nextM_some h; omega

theorem behindS_some {ks : List Int} {n e : Int} (h : behindS ks n = some e) : n + 4 ≤ e ∧ e ≤ (ks.length : Int) := by
  unfold behindS at h
  split at h
  · cases h
  · split at h
    · rename_i hc; cases h; exact hc
    · cases h

theorem dataEnd_le {ks : List Int} {n : Int} (hn : n ≤ (ks.length : Int)) : n ≤ dataEnd ks n ∧ dataEnd ks n ≤ (ks.length : Int) := by
  induction n using dataEnd.induct (ks := ks) with
  | case1 n h => rw [dataEnd]; split <;> simp_all
  | case2 n i h he => rw [dataEnd]; have := nextM_some h; split <;> simp_all; omega
  | case3 n i h he ih => rw [dataEnd]; have := nextM_some h; have := ih (by omega); split <;> simp_all; omega

/-- the pieces from a place on: place, end of the segment, end of the data -/
def pieces (ks : List Int) (n : Int) : List (Int × Int × Int) :=
  match h : nextM ks n with
  | none => []
  | some i =>
    if ks.getD (i + 1).toNat 0 = 217 then [] else
    if hasLen (ks.getD (i + 1).toNat 0) = true then
      match h2 : behindS ks i with
      | none => pieces ks (i + 2)
      | some e => (i, e, if ks.getD (i + 1).toNat 0 = 218 then dataEnd ks e else e) :: pieces ks (if ks.getD (i + 1).toNat 0 = 218 then dataEnd ks e else e)
    else pieces ks (i + 2)
termination_by ((ks.length : Int) - n).toNat
decreasing_by
  · have := nextM_some h; omega
  · have := nextM_some h; have := behindS_some h2; have := dataEnd_le (ks := ks) (n := e) (by omega); split <;> omega
  · have := nextM_some h; omega
end Mine
end

section
open PySem PySem.W PySem.Calls PyProof.Rows
namespace Mine
theorem nm_skip1 {ks : List Int} {n i : Int} (h0 : 0 ≤ i) (e : nextM ks n = nextM ks i) (h : i + 1 < (ks.length : Int)) (hx : ks.getD i.toNat 0 ≠ 255) : 0 ≤ i + 1 ∧ nextM ks n = nextM ks (i + 1) := by
  refine ⟨by omega, e.trans ?_⟩
  rw [nextM, if_pos h, if_neg (by unfold isM; rw [decide_eq_false hx]; simp)]
theorem nm_skip2 {ks : List Int} {n i : Int} (h0 : 0 ≤ i) (e : nextM ks n = nextM ks i) (h : i + 1 < (ks.length : Int)) (hx : ([0, 255].any fun x => x == ks.getD (i + 1).toNat 0) = true) : 0 ≤ i + 1 ∧ nextM ks n = nextM ks (i + 1) := by
  refine ⟨by omega, e.trans ?_⟩
  simp only [List.any_cons, List.any_nil, Bool.or_false, Bool.or_eq_true, beq_iff_eq] at hx
  rw [nextM, if_pos h, if_neg]
  unfold isM
  rcases hx with hx | hx <;> rw [← hx] <;> simp
theorem nm_hit {ks : List Int} {n i : Int} (e : nextM ks n = nextM ks i) (h : i + 1 < (ks.length : Int)) (hy : ks.getD i.toNat 0 = 255) (hx : ([0, 255].any fun x => x == ks.getD (i + 1).toNat 0) = false) : nextM ks n = some i := by
  rw [e, nextM, if_pos h, if_pos]
  simp only [List.any_cons, List.any_nil, Bool.or_false, Bool.or_eq_false_iff, beq_eq_false_iff_ne] at hx
  unfold isM
  simp only [Bool.and_eq_true, decide_eq_true_eq, Bool.not_eq_true', decide_eq_false_iff_not]
  exact ⟨⟨hy, fun q => hx.1 q.symm⟩, fun q => hx.2 q.symm⟩
theorem nm_none {ks : List Int} {n i : Int} (e : nextM ks n = nextM ks i) (h : ¬ i + 1 < (ks.length : Int)) : nextM ks n = none := by
  rw [e, nextM, if_neg h]
section
variable {w : World} {mean : ExcName → Option Value} {mg mb : Str → Option Value}
set_option maxHeartbeats 4000000 in
theorem c_next_marker {b : Array UInt8} {ks : List Int} (hb : KBw.bInts b = ks) (hl : ks.length ≤ 64) (tb : Tok) (n : Int) (tn : Tok) (hn : 0 ≤ n) :
    Ctr w mean mg mb 1 57 [.bytes b tb, .int n tn] (fun _ => True) (fun tl r => match nextM ks n with
      | none => tl = [] ∧ r = .none
      | some i => ∃ D t1 t2 c, tl = [(D, { cls := .type "tuple", data := .seq #[.int i t1, .int (ks.getD (i + 1).toNat 0) t2] c })] ∧ r = .ref D) := by
  unfold Ctr
  intro dp un gd cn cs a ccd cl outer A₀ base h₀ L m news s Q E B F X N T hk hdp hun hpre hret
  w_top off
  k_with_none
  refine wpAny_call ?_
  k_dflt ktr_enter
  k_with "exec While Compare cons nil" => k_while (fun _ i => 0 ≤ i ∧ nextM ks n = nextM ks i) (fun _ i => ((ks.length : Int) - i).toNat) "at"
  k_with "state" => first | exact ⟨hn, rfl⟩ | exact nm_skip1 (by assumption) (by assumption) (by assumption) (by assumption) | exact nm_skip2 (by assumption) (by assumption) (by assumption) (by assumption)
  k_steps
  · have e := nm_hit (by assumption) (by assumption) (by assumption) (by assumption)
    refine' ret_end1 ?k1 ?k2 ?k3 ?k4 ?k5 ?_
    case k1 => assumption
    case k2 => k_asm
    case k3 => assumption
    case k4 => kcj_all
    case k5 => exact kst_ltOf (And.right (by assumption))
    rw [e]
    exact ⟨_, _, _, _, rfl, rfl⟩
  · have e := nm_none (by assumption) (by assumption)
    refine' ret_end (tl := []) ?k1 ?k2 ?k3 ?k4 no_lt ?_
    case k1 => assumption
    case k2 => k_asm
    case k3 => assumption
    case k4 => simp only [List.nil_append]; kcj_all
    rw [e]
    exact ⟨rfl, rfl⟩
end
end Mine
end

section
open PySem PySem.W PySem.Calls PyProof.Rows
namespace Mine
theorem bs_some {ks : List Int} {n : Int} (h1 : ¬ (ks.length : Int) < n + 4) (h2 : n + 4 ≤ n + 2 + ks.getD (n + 2).toNat 0 * 256 + ks.getD (n + 3).toNat 0) (h3 : n + 2 + ks.getD (n + 2).toNat 0 * 256 + ks.getD (n + 3).toNat 0 ≤ (ks.length : Int)) : behindS ks n = some (n + 2 + ks.getD (n + 2).toNat 0 * 256 + ks.getD (n + 3).toNat 0) := by
  unfold behindS
  rw [if_neg h1, if_pos ⟨h2, h3⟩]
theorem bs_none1 {ks : List Int} {n : Int} (h1 : (ks.length : Int) < n + 4) : behindS ks n = none := by
  unfold behindS
  rw [if_pos h1]
theorem bs_none2 {ks : List Int} {n : Int} (h1 : ¬ (ks.length : Int) < n + 4) (h3 : ¬ n + 2 + ks.getD (n + 2).toNat 0 * 256 + ks.getD (n + 3).toNat 0 ≤ (ks.length : Int)) : behindS ks n = none := by
  unfold behindS
  rw [if_neg h1, if_neg (fun h => h3 h.2)]
theorem bs_none3 {ks : List Int} {n : Int} (h1 : ¬ (ks.length : Int) < n + 4) (h2 : ¬ n + 4 ≤ n + 2 + ks.getD (n + 2).toNat 0 * 256 + ks.getD (n + 3).toNat 0) : behindS ks n = none := by
  unfold behindS
  rw [if_neg h1, if_neg (fun h => h2 h.1)]
theorem isEnd_1 {ks : List Int} {n : Int} (h : ks.getD (n + 1).toNat 0 = 217) : isEnd ks n = true := by
  unfold isEnd; rw [if_pos h]
theorem isEnd_2 {ks : List Int} {n : Int} (h : ks.getD (n + 1).toNat 0 ≠ 217) (h2 : ks.getD (n + 1).toNat 0 < 192) : isEnd ks n = false := by
  unfold isEnd; rw [if_neg h, if_pos (.inr h2)]
theorem isEnd_3 {ks : List Int} {n : Int} (h : ks.getD (n + 1).toNat 0 ≠ 217) (h2 : hasLen (ks.getD (n + 1).toNat 0) = false) : isEnd ks n = false := by
  unfold isEnd; rw [if_neg h, if_pos (.inl h2)]
theorem isEnd_4 {ks : List Int} {n : Int} (h : ks.getD (n + 1).toNat 0 ≠ 217) (h2 : behindS ks n = none) : isEnd ks n = false := by
  unfold isEnd; rw [if_neg h, h2]; split <;> rfl
theorem isEnd_some {ks : List Int} {n x : Int} (h : ks.getD (n + 1).toNat 0 ≠ 217) (h2 : hasLen (ks.getD (n + 1).toNat 0) = true) (h3 : ¬ ks.getD (n + 1).toNat 0 < 192) (h4 : behindS ks n = some x) :
    isEnd ks n = (decide (ks.getD (n + 1).toNat 0 = 218) || decide (x = (ks.length : Int)) || decide (ks.getD x.toNat 0 = 255)) := by
  unfold isEnd; rw [if_neg h, if_neg, h4]
  rintro (q | q)
  · rw [h2] at q; cases q
  · exact h3 q
theorem isEnd_5 {ks : List Int} {n x : Int} (h : ks.getD (n + 1).toNat 0 ≠ 217) (h2 : hasLen (ks.getD (n + 1).toNat 0) = true) (h3 : ¬ ks.getD (n + 1).toNat 0 < 192) (h4 : behindS ks n = some x) (h5 : ks.getD (n + 1).toNat 0 = 218) :
    (ks.getD (n + 1).toNat 0 == 218) = isEnd ks n := by
  rw [isEnd_some h h2 h3 h4, h5]; rfl
theorem isEnd_6 {ks : List Int} {n x : Int} (h : ks.getD (n + 1).toNat 0 ≠ 217) (h2 : hasLen (ks.getD (n + 1).toNat 0) = true) (h3 : ¬ ks.getD (n + 1).toNat 0 < 192) (h4 : behindS ks n = some x) (h6 : x = (ks.length : Int)) :
    (x == (ks.length : Int)) = isEnd ks n := by
  rw [isEnd_some h h2 h3 h4, h6]; simp
theorem isEnd_7 {ks : List Int} {n x : Int} (h : ks.getD (n + 1).toNat 0 ≠ 217) (h2 : hasLen (ks.getD (n + 1).toNat 0) = true) (h3 : ¬ ks.getD (n + 1).toNat 0 < 192) (h4 : behindS ks n = some x) (h5 : ks.getD (n + 1).toNat 0 ≠ 218) (h6 : x ≠ (ks.length : Int)) :
    (ks.getD x.toNat 0 == 255) = isEnd ks n := by
  rw [isEnd_some h h2 h3 h4, decide_eq_false h5, decide_eq_false h6, Bool.false_or, Bool.false_or]
  exact Bool.beq_eq_decide_eq _ _
def OutOI (o : Option Int) (tl : List (Addr × Obj)) (r : Value) : Prop := match o with
  | none => tl = [] ∧ r = .none
  | some e => tl = [] ∧ ∃ t, r = .int e t
theorem out_none {o : Option Int} (e : o = none) : OutOI o [] .none := by subst e; exact ⟨rfl, rfl⟩
theorem out_some {o : Option Int} {x : Int} {t : Tok} (e : o = some x) : OutOI o [] (.int x t) := by subst e; exact ⟨rfl, t, rfl⟩
theorem out_cases {o : Option Int} {tl : List (Addr × Obj)} {r : Value} (h : OutOI o tl r) : tl = [] ∧ ((o = none ∧ r = .none) ∨ ∃ x t, o = some x ∧ r = .int x t) := by
  cases o with
  | none => exact ⟨h.1, .inl ⟨rfl, h.2⟩⟩
  | some x => obtain ⟨h1, t, h2⟩ := h; exact ⟨h1, .inr ⟨x, t, rfl, h2⟩⟩
section
variable {w : World} {mean : ExcName → Option Value} {mg mb : Str → Option Value}
local macro_rules | `(tactic| walk_at "Mine.ret") => `(tactic| (refine' ret_end (tl := []) ?k1 ?k2 ?k3 ?k4 no_lt ?_; (case k1 => assumption); (case k2 => k_asm); (case k3 => assumption); (case k4 => (simp only [List.nil_append]; kcj_all))))
set_option maxHeartbeats 4000000 in
theorem c_behind_segment {b : Array UInt8} {ks : List Int} (hb : KBw.bInts b = ks) (hl : ks.length ≤ 64) (tb : Tok) (n : Int) (tn : Tok) (hn : 0 ≤ n) :
    Ctr w mean mg mb 1 64 [.bytes b tb, .int n tn] (fun _ => True) (OutOI (behindS ks n)) := by
  unfold Ctr
  intro dp un gd cn cs a ccd cl outer A₀ base h₀ L m news s Q E B F X N T hk hdp hun hpre hret
  w_top off
  k_with_none
  refine wpAny_call ?_
  k_dflt ktr_enter
  k_steps
  all_goals walk_at "Mine.ret"
  · exact out_none (bs_none1 (by assumption))
  · exact out_some (bs_some (by assumption) (by assumption) (by assumption))
  · exact out_none (bs_none2 (by assumption) (by assumption))
  · exact out_none (bs_none3 (by assumption) (by assumption))

local macro_rules | `(tactic| walk_at "call ref") => `(tactic| (k_here; k_dflt (refine' ctr_use (c_has_length _ _) ?k1 ?k2 ?k3 ?k4 ?k5 ?kK ?kd ?ku ?kp ?_); (case k1 => k_asm); (case k2 => k_asm); (case k3 => k_asm); (case k4 => k_asm); (case k5 => k_asm); (case kK => first | exact rfl | assumption); (case kd => ktr_room); (case ku => ktr_units); (case kp => trivial); intro r9 tl9 h9 tk9 F9 N9 l9 o9; obtain ⟨o1, o2⟩ := o9; subst o1; subst o2; (simp only [List.nil_append] at N9); clear l9; (try dsimp only); (try k_fold)))
local macro_rules | `(tactic| walk_at "call ref") => `(tactic| (k_here; k_dflt (refine' ctr_use (c_behind_segment ?kb ?kl _ _ _ ?kn) ?k1 ?k2 ?k3 ?k4 ?k5 ?kK ?kd ?ku ?kp ?_); (case kb => assumption); (case kl => assumption); (case kn => first | assumption | omega); (case k1 => k_asm); (case k2 => k_asm); (case k3 => k_asm); (case k4 => k_asm); (case k5 => k_asm); (case kK => first | exact rfl | assumption); (case kd => ktr_room); (case ku => ktr_units); (case kp => trivial); intro r9 tl9 h9 tk9 F9 N9 l9 o9; obtain ⟨o1, o2⟩ := out_cases o9; clear o9; subst o1; (simp only [List.nil_append] at N9); clear l9; (rcases o2 with ⟨o3, o4⟩ | ⟨x9, t9, o3, o4⟩) <;> (subst o4; (try have b9 := behindS_some o3); (try dsimp only); (try k_fold))))
set_option maxHeartbeats 4000000 in
theorem c_is_end {b : Array UInt8} {ks : List Int} (hb : KBw.bInts b = ks) (hl : ks.length ≤ 64) (tb : Tok) (n : Int) (tn : Tok) (hn : 0 ≤ n) (hm : n + 1 < (ks.length : Int)) :
    Ctr w mean mg mb 3 71 [.bytes b tb, .int n tn] (fun _ => True) (fun tl r => tl = [] ∧ r = .bool (isEnd ks n)) := by
  unfold Ctr
  intro dp un gd cn cs a ccd cl outer A₀ base h₀ L m news s Q E B F X N T hk hdp hun hpre hret
  w_top off
  k_with_none
  refine wpAny_call ?_
  k_dflt ktr_enter
  k_steps
  all_goals (walk_at "Mine.ret"; refine ⟨rfl, congrArg Value.bool ?_⟩)
  all_goals first
    | exact (isEnd_1 (by assumption)).symm
    | exact (isEnd_2 (by assumption) (by assumption)).symm
    | exact (isEnd_3 (by assumption) (by assumption)).symm
    | exact (isEnd_4 (by assumption) (by assumption)).symm
    | exact isEnd_5 (by assumption) (by assumption) (by assumption) (by assumption) (by assumption)
    | exact isEnd_6 (by assumption) (by assumption) (by assumption) (by assumption) (by assumption)
    | exact isEnd_7 (by assumption) (by assumption) (by assumption) (by assumption) (by assumption) (by assumption)
end
end Mine
end

section
open PySem PySem.W PySem.Calls PyProof.Rows
namespace Mine

abbrev tup2 (i x : Int) (t1 t2 : Tok) (c : Nat) : Obj := { cls := .type "tuple", data := .seq #[.int i t1, .int x t2] c }
/-- what a found marker is in the ledger -/
abbrev Fd := Option (Addr × Int × Tok × Tok × Nat)
def fdLed (ks : List Int) (news : List (Addr × Obj)) : Fd → List (Addr × Obj)
  | none => news
  | some (D, i, t1, t2, c) => (D, tup2 i (ks.getD (i + 1).toNat 0) t1 t2 c) :: news
def fdVal : Fd → Value
  | none => .none
  | some (D, _) => .ref D
def fdIs (ks : List Int) (n : Int) : Fd → Prop
  | none => nextM ks n = none
  | some (_, i, _) => nextM ks n = some i
theorem nm_cases {ks : List Int} {n : Int} {tl : List (Addr × Obj)} {r : Value} (h : match nextM ks n with
      | none => tl = [] ∧ r = .none
      | some i => ∃ D t1 t2 c, tl = [(D, { cls := .type "tuple", data := .seq #[.int i t1, .int (ks.getD (i + 1).toNat 0) t2] c })] ∧ r = .ref D) :
    (nextM ks n = none ∧ tl = [] ∧ r = .none) ∨ ∃ i D t1 t2 c, nextM ks n = some i ∧ tl = [(D, tup2 i (ks.getD (i + 1).toNat 0) t1 t2 c)] ∧ r = .ref D := by
  cases e : nextM ks n with
  | none => rw [e] at h; exact .inl ⟨rfl, h⟩
  | some i => rw [e] at h; obtain ⟨D, t1, t2, c, h1, h2⟩ := h; exact .inr ⟨i, D, t1, t2, c, rfl, h1, h2⟩
theorem lt_one {news : List (Addr × Obj)} {D : Addr} {o : Obj} (h : ∀ p ∈ news, ∀ q ∈ [(D, o)], p.1 < q.1) : ∀ p ∈ news, p.1 < D := fun p hp => h p hp _ (.head _)

/-- the word of salvaged_end's loop -/
def seP (ks : List Int) (n : Int) : Fd → Prop
  | none => dataEnd ks n = (ks.length : Int)
  | some (_, i, _) => 0 ≤ i ∧ i + 1 < (ks.length : Int) ∧ dataEnd ks n = if isEnd ks i = true then i else dataEnd ks (i + 2)
def seM (ks : List Int) : Fd → Nat
  | none => 0
  | some (_, i, _) => ((ks.length : Int) - i).toNat + 1
theorem dataEnd_eq (ks : List Int) (n : Int) : dataEnd ks n = match nextM ks n with
  | none => (ks.length : Int)
  | some i => if isEnd ks i = true then i else dataEnd ks (i + 2) := by
  rw [dataEnd]; split <;> (rename_i h; rw [h])
theorem dataEnd_none {ks : List Int} {n : Int} (h : nextM ks n = none) : dataEnd ks n = (ks.length : Int) := by rw [dataEnd_eq, h]
theorem dataEnd_some {ks : List Int} {n i : Int} (h : nextM ks n = some i) : dataEnd ks n = if isEnd ks i = true then i else dataEnd ks (i + 2) := by rw [dataEnd_eq, h]

theorem se_none {ks : List Int} {n i : Int} (hP : 0 ≤ i ∧ i + 1 < (ks.length : Int) ∧ dataEnd ks n = if isEnd ks i = true then i else dataEnd ks (i + 2)) (he : isEnd ks i = false) (h : nextM ks (i + 2) = none) : seP ks n none := by
  show dataEnd ks n = _
  rw [hP.2.2, he, if_neg Bool.false_ne_true, dataEnd_none h]
theorem se_some {ks : List Int} {n i j : Int} {D : Addr} {t1 t2 : Tok} {c : Nat} (hP : 0 ≤ i ∧ i + 1 < (ks.length : Int) ∧ dataEnd ks n = if isEnd ks i = true then i else dataEnd ks (i + 2)) (he : isEnd ks i = false) (h : nextM ks (i + 2) = some j) : seP ks n (some (D, j, t1, t2, c)) := by
  have hj := nextM_some h
  refine ⟨by omega, hj.2.1, ?_⟩
  rw [hP.2.2, he, if_neg Bool.false_ne_true, dataEnd_some h]
theorem se_meas {ks : List Int} {n i j : Int} {D D' : Addr} {t1 t2 t1' t2' : Tok} {c c' : Nat} (hP : 0 ≤ i ∧ i + 1 < (ks.length : Int) ∧ dataEnd ks n = if isEnd ks i = true then i else dataEnd ks (i + 2)) (h : nextM ks (i + 2) = some j) : seM ks (some (D, j, t1, t2, c)) < seM ks (some (D', i, t1', t2', c')) := by
  have hj := nextM_some h
  show _ + 1 < _ + 1
  omega
theorem fd_end_some {h₀ : Heap} {L : Addr} {s : Shared} {ks : List Int} {news news' : List (Addr × Obj)} {m₀ m' : Str → Option Value} {P : Fd → Prop} {μ : Fd → Nat} {cc : Fd} {h' : Heap} {tk : Nat} {D : Addr} {j : Int} {t1 t2 : Tok} {c : Nat}
    (F : Fr h₀ L h' m') (N : News h₀ L h' ((D, tup2 j (ks.getD (j + 1).toNat 0) t1 t2 c) :: news')) (hn : ∀ p ∈ news, p ∈ news')
    (hk : ∀ p ∈ [(Str.ofString "found", Value.ref D)], m' p.1 = some p.2) (hr : ∀ z, (∀ p ∈ [(Str.ofString "found", Value.ref D)], z ≠ p.1) → ([] : List Str).contains z = false → m' z = m₀ z) (hp : P (some (D, j, t1, t2, c))) (hm : μ (some (D, j, t1, t2, c)) < μ cc) :
    KswEnd h₀ L s (fdLed ks news) (fun c => [(Str.ofString "found", fdVal c)]) (fun _ => True) [] m₀ P μ cc { s with heap := h', toks := tk } :=
  ksw_end (some (D, j, t1, t2, c)) F N (fun p hp => by
    rcases List.mem_cons.mp hp with rfl | hp
    · exact .head _
    · exact .tail _ (hn p hp)) trivial hk hr hp hm
section
variable {w : World} {mean : ExcName → Option Value} {mg mb : Str → Option Value}
local macro_rules | `(tactic| walk_at "Mine.pad") => `(tactic| skip)
local macro_rules | `(tactic| walk_at "Mine.ret") => `(tactic| (refine' ret_end (tl := []) ?k1 ?k2 ?k3 ?k4 no_lt ?_; (case k1 => assumption); (case k2 => k_asm); (case k3 => assumption); (case k4 => (simp only [List.nil_append]; kcj_all))))
local macro_rules | `(tactic| walk_at "call ref") => `(tactic| (k_here; k_dflt (refine' ctr_use (c_is_end ?kb ?kl _ _ _ ?kn ?km) ?k1 ?k2 ?k3 ?k4 ?k5 ?kK ?kd ?ku ?kp ?_); (case kb => assumption); (case kl => assumption); (case kn => first | assumption | omega); (case km => first | assumption | omega); (case k1 => k_asm); (case k2 => k_asm); (case k3 => k_asm); (case k4 => k_asm); (case k5 => k_asm); (case kK => first | exact rfl | assumption); (case kd => ktr_room); (case ku => ktr_units); (case kp => trivial); intro r9 tl9 h9 tk9 F9 N9 l9 o9; obtain ⟨o1, o2⟩ := o9; subst o1; subst o2; (simp only [List.nil_append] at N9); clear l9; (try dsimp only); (try k_fold)))
local macro_rules | `(tactic| walk_at "call ref") => `(tactic| (k_here; k_dflt (refine' ctr_use (c_next_marker ?kb ?kl _ _ _ ?kn) ?k1 ?k2 ?k3 ?k4 ?k5 ?kK ?kd ?ku ?kp ?_); (case kb => assumption); (case kl => assumption); (case kn => first | assumption | omega); (case k1 => k_asm); (case k2 => k_asm); (case k3 => k_asm); (case k4 => k_asm); (case k5 => k_asm); (case kK => first | exact rfl | assumption); (case kd => ktr_room); (case ku => ktr_units); (case kp => trivial); intro r9 tl9 h9 tk9 F9 N9 l9 o9; (rcases nm_cases o9 with ⟨o1, o2, o3⟩ | ⟨i9, D9, u1, u2, c9, o1, o2, o3⟩) <;> (clear o9; subst o2; subst o3; (simp only [List.nil_append, List.cons_append] at N9); (first | (replace l9 := lt_one l9; k_lt l9) | clear l9); (try have b9 := nextM_some o1); (try dsimp only); (try k_fold))))
set_option maxHeartbeats 4000000 in
theorem c_salvaged_end {b : Array UInt8} {ks : List Int} (hb : KBw.bInts b = ks) (hl : ks.length ≤ 64) (tb : Tok) (n : Int) (tn : Tok) (hn : 0 ≤ n) (hm : n ≤ (ks.length : Int)) :
    Ctr w mean mg mb 4 78 [.bytes b tb, .int n tn] (fun _ => True) (fun tl r => tl = [] ∧ ∃ t, r = .int (dataEnd ks n) t ∧ n ≤ dataEnd ks n ∧ dataEnd ks n ≤ (ks.length : Int)) := by
  unfold Ctr
  intro dp un gd cn cs a ccd cl outer A₀ base h₀ L m news s Q E B F X N T hk hdp hun hpre hret
  w_top off
  k_with_none
  refine wpAny_call ?_
  k_dflt ktr_enter
  k_with "exec While BoolOp cons nil" =>
    k_here
    rename Fr _ _ _ _ => lF'
    rename News _ _ _ _ => lN'
    with_unfolding_all refine' ksw_while (fdLed ks news) (fun c => [(Str.ofString "found", fdVal c)]) (fun _ => True) [] (seP ks n) (seM ks) (some (_, _, _, _, _)) lF' ?kn trivial ?kk ?kp ?_
    case kn => exact lN'
    case kk => kst_all
    case kp => exact ⟨by omega, by omega, dataEnd_some (by assumption)⟩
    clear lF' lN'
    intro c u h tk _ hP hF hN
    rcases c with _ | ⟨D, i, t1, t2, cc⟩ <;> dsimp only [fdLed, fdVal, seP, kstB] at hP hF hN
    all_goals (try k_fold)
  k_steps
  · walk_at "Mine.ret"
    exact ⟨rfl, _, by rw [dataEnd_none (by assumption)], dataEnd_le hm⟩
  · walk_at "Mine.ret"
    rename _ = (_ : Int) => hP
    exact ⟨rfl, _, by rw [hP], dataEnd_le hm⟩
  · walk_at "Mine.ret"
    rename _ ∧ _ ∧ dataEnd _ _ = _ => hP
    rename isEnd _ _ = true => hE
    exact ⟨rfl, _, by rw [hP.2.2, if_pos hE], dataEnd_le hm⟩
  · refine' ksw_end none ?a1 ?a2 ?a3 trivial ?a4 ?a5 ?a6 ?a7
    case a1 => assumption
    case a2 => assumption
    case a3 => dsimp only [fdLed]; intro p hp; exact .tail _ hp
    case a4 => kst_all
    case a5 => ksw_same
    case a6 => exact se_none (by assumption) (by assumption) (by assumption)
    case a7 => exact Nat.succ_pos _
  · refine' fd_end_some ?a1 ?a2 ?a3 ?a4 ?a5 ?a6 ?a7
    case a1 => assumption
    case a2 => assumption
    case a3 => kcj_all
    case a4 => kst_all
    case a5 => ksw_same
    case a6 => exact se_some (by assumption) (by assumption) (by assumption)
    case a7 => exact se_meas (by assumption) (by assumption)
end
end Mine
end

section
open PySem PySem.W PySem.Calls PyProof.Rows
namespace Mine

def piecesM (ks : List Int) (i : Int) : List (Int × Int × Int) :=
  if ks.getD (i + 1).toNat 0 = 217 then [] else
  if hasLen (ks.getD (i + 1).toNat 0) = true then
    match behindS ks i with
    | none => pieces ks (i + 2)
    | some e => (i, e, if ks.getD (i + 1).toNat 0 = 218 then dataEnd ks e else e) :: pieces ks (if ks.getD (i + 1).toNat 0 = 218 then dataEnd ks e else e)
  else pieces ks (i + 2)
theorem pieces_eq (ks : List Int) (n : Int) : pieces ks n = match nextM ks n with
  | none => []
  | some i => piecesM ks i := by
  rw [pieces]
  split <;> (rename_i h; rw [h])
  unfold piecesM
  dsimp only
  split
  · rfl
  · split
    · split <;> (rename_i h2; rw [h2])
    · rfl
theorem pieces_none {ks : List Int} {n : Int} (h : nextM ks n = none) : pieces ks n = [] := by rw [pieces_eq, h]
theorem pieces_some {ks : List Int} {n i : Int} (h : nextM ks n = some i) : pieces ks n = piecesM ks i := by rw [pieces_eq, h]

theorem pm_eoi {ks : List Int} {i : Int} (h : ks.getD (i + 1).toNat 0 = 217) : piecesM ks i = [] := by
  unfold piecesM; rw [if_pos h]
theorem pm_skip1 {ks : List Int} {i : Int} (h : ks.getD (i + 1).toNat 0 ≠ 217) (h2 : hasLen (ks.getD (i + 1).toNat 0) = true) (h3 : behindS ks i = none) : piecesM ks i = pieces ks (i + 2) := by
  unfold piecesM; rw [if_neg h, if_pos h2, h3]
theorem pm_skip2 {ks : List Int} {i : Int} (h : ks.getD (i + 1).toNat 0 ≠ 217) (h2 : hasLen (ks.getD (i + 1).toNat 0) = false) : piecesM ks i = pieces ks (i + 2) := by
  unfold piecesM; rw [if_neg h, if_neg (by rw [h2]; exact Bool.false_ne_true)]
theorem pm_new1 {ks : List Int} {i e : Int} (h : ks.getD (i + 1).toNat 0 ≠ 217) (h2 : hasLen (ks.getD (i + 1).toNat 0) = true) (h3 : behindS ks i = some e) (h4 : ks.getD (i + 1).toNat 0 = 218) : piecesM ks i = (i, e, dataEnd ks e) :: pieces ks (dataEnd ks e) := by
  unfold piecesM; rw [if_neg h, if_pos h2, h3]; dsimp only; rw [if_pos h4]
theorem pm_new2 {ks : List Int} {i e : Int} (h : ks.getD (i + 1).toNat 0 ≠ 217) (h2 : hasLen (ks.getD (i + 1).toNat 0) = true) (h3 : behindS ks i = some e) (h4 : ks.getD (i + 1).toNat 0 ≠ 218) : piecesM ks i = (i, e, e) :: pieces ks e := by
  unfold piecesM; rw [if_neg h, if_pos h2, h3]; dsimp only; rw [if_neg h4]
/-- what a piece is in the ledger -/
def pcDict (w : World) (b : Array UInt8) (ks : List Int) (r : Int × Int × Int) (k1 k2 k3 t1 t2 t3 : Tok) : List DictEntry :=
  [⟨PyData.keyHash w.params (Str.ofString "code"), .str (Str.ofString "code") k1, .int (ks.getD (r.1 + 1).toNat 0) t1⟩,
   ⟨PyData.keyHash w.params (Str.ofString "payload"), .str (Str.ofString "payload") k2, .bytes (KBy.picked b (some (r.1 + 4)) (some r.2.1)) t2⟩,
   ⟨PyData.keyHash w.params (Str.ofString "data"), .str (Str.ofString "data") k3, .bytes (KBy.picked b (some r.2.1) (some r.2.2)) t3⟩]
def PcAt (w : World) (b : Array UInt8) (ks : List Int) (led : List (Addr × Obj)) (v : Value) (r : Int × Int × Int) : Prop :=
  ∃ (x dx : Addr) (k1 k2 k3 t1 t2 t3 : Tok), v = .ref x ∧ (x, instObj 46 dx) ∈ led ∧ (dx, dictOf (pcDict w b ks r k1 k2 k3 t1 t2 t3) 3) ∈ led
/-- two lists, item by item -/
def Each {α β : Type} (R : α → β → Prop) : List α → List β → Prop
  | [], [] => True
  | v :: vs, r :: rs => R v r ∧ Each R vs rs
  | _, _ => False
theorem Each.snoc {α β : Type} {R : α → β → Prop} {v : α} {r : β} : ∀ {vs : List α} {rs : List β}, Each R vs rs → R v r → Each R (vs ++ [v]) (rs ++ [r])
  | [], [], _, h => ⟨h, trivial⟩
  | _ :: _, _ :: _, ⟨h1, h2⟩, h => ⟨h1, h2.snoc h⟩
theorem Each.mono {α β : Type} {R R' : α → β → Prop} (hR : ∀ a b, R a b → R' a b) : ∀ {vs : List α} {rs : List β}, Each R vs rs → Each R' vs rs
  | [], [], _ => trivial
  | _ :: _, _ :: _, ⟨h1, h2⟩ => ⟨hR _ _ h1, h2.mono hR⟩
theorem Each.length {α β : Type} {R : α → β → Prop} : ∀ {vs : List α} {rs : List β}, Each R vs rs → vs.length = rs.length
  | [], [], _ => rfl
  | _ :: _, _ :: _, ⟨_, h2⟩ => congrArg (· + 1) h2.length
theorem PcAt.mono {w : World} {b : Array UInt8} {ks : List Int} {led led' : List (Addr × Obj)} (h : ∀ p ∈ led, p ∈ led') (v : Value) (r : Int × Int × Int) (x : PcAt w b ks led v r) : PcAt w b ks led' v r := by
  obtain ⟨x, dx, k1, k2, k3, t1, t2, t3, e, h1, h2⟩ := x
  exact ⟨x, dx, k1, k2, k3, t1, t2, t3, e, h _ h1, h _ h2⟩

abbrev SpS := Fd × List Value × Nat × List (Addr × Obj) × List (Int × Int × Int)
def fdOff (P : Addr) : Fd → Prop
  | none => True
  | some (D, _) => @LT.lt Nat _ P D
def spLed (ks : List Int) (P : Addr) (news : List (Addr × Obj)) (c : SpS) : List (Addr × Obj) := fdLed ks ((P, PySem.W.listOf c.2.1.toArray c.2.2.1) :: (c.2.2.2.1 ++ news)) c.1
def spPs (c : SpS) : List (Str × Value) := [(Str.ofString "found", fdVal c.1)]
def spF (w : World) (b : Array UInt8) (ks : List Int) (P : Addr) (c : SpS) : Prop := OwnOff c.2.2.2.1 [P] ∧ fdOff P c.1 ∧ (∀ q ∈ c.2.2.2.1, @LT.lt Nat _ P q.1) ∧ Each (PcAt w b ks c.2.2.2.1) c.2.1 c.2.2.2.2
def spP (ks : List Int) (c : SpS) : Prop := match c with
  | (none, _, _, _, rs) => pieces ks 0 = rs
  | (some (_, i, _), vs, _, _, rs) => 0 ≤ i ∧ i + 1 < (ks.length : Int) ∧ (vs.length : Int) ≤ i ∧ pieces ks 0 = rs ++ piecesM ks i
def spM (ks : List Int) (c : SpS) : Nat := seM ks c.1
abbrev spSt : List Str := [Str.ofString "at", Str.ofString "code", Str.ofString "behind", Str.ofString "end"]
section
variable {prog : Program} {w : World} {A : Around} {E : Value → Shared → Prop} {Q : Flow → Shared → Prop} {s : Shared} {env : Env} {h₀ : Heap} {L : Addr}
theorem sp_while {b : Array UInt8} {ks : List Int} {P : Addr} {news : List (Addr × Obj)} {test : Expr} {body : List Stmt} {pos : Pos} {m₀ : Str → Option Value} {D : Addr} {i : Int} {t1 t2 : Tok} {c : Nat} {n : Nat}
    (F : Fr h₀ L s.heap m₀) (N : News h₀ L s.heap ((D, tup2 i (ks.getD (i + 1).toNat 0) t1 t2 c) :: (P, PySem.W.listOf #[] n) :: news)) (hD : @LT.lt Nat _ P D) (hm : m₀ (Str.ofString "found") = some (.ref D)) (hi : nextM ks 0 = some i)
    (turn : ∀ (c : SpS) (u : Str → Option Value) h tk, spF w b ks P c → spP ks c → Fr h₀ L h (kstB (fun z => if spSt.contains z then u z else m₀ z) (spPs c)) → News h₀ L h (spLed ks P news c) →
      wpAny (model prog w) A (isTrue test env (eval test env)) (fun bb s₂ =>
        if bb = true then wpAny (model prog w) A (execs body env) (KswPost h₀ L s (spLed ks P news) spPs (spF w b ks P) spSt m₀ (spP ks) (spM ks) Q c) E s₂ else Q .next s₂) E { s with heap := h, toks := tk })
    (hE : PassesOwn (model prog w) A env E := by passes_own) :
    wpAny (model prog w) A (exec (.While test body [] pos) env) Q E s :=
  ksw_while (spLed ks P news) spPs (spF w b ks P) spSt (spP ks) (spM ks) (some (D, i, t1, t2, c), [], n, [], []) F N ⟨fun _ h => (nomatch h), hD, fun _ h => (nomatch h), trivial⟩
    (fun p hp => by rw [List.mem_singleton.mp hp]; exact hm)
    ⟨(nextM_some hi).1, (nextM_some hi).2.1, (nextM_some hi).1, by rw [pieces_some hi, List.nil_append]⟩ turn hE

variable {b : Array UInt8} {ks : List Int} {P : Addr} {news : List (Addr × Obj)} {m₀ m' : Str → Option Value} {h' : Heap} {tk : Nat} {vs : List Value} {nn : Nat} {tl : List (Addr × Obj)} {rs : List (Int × Int × Int)} {D D' : Addr} {i j : Int} {t1 t2 u1 u2 : Tok} {cc c' : Nat} {o : Obj}
/-- what the turn begins with -/
abbrev SpI (w : World) (b : Array UInt8) (ks : List Int) (P : Addr) (vs : List Value) (tl : List (Addr × Obj)) (rs : List (Int × Int × Int)) (i : Int) : Prop :=
  OwnOff tl [P] ∧ (∀ q ∈ tl, @LT.lt Nat _ P q.1) ∧ Each (PcAt w b ks tl) vs rs ∧ 0 ≤ i ∧ i + 1 < (ks.length : Int) ∧ (vs.length : Int) ≤ i ∧ pieces ks 0 = rs ++ piecesM ks i
theorem sp_same_none (I : SpI w b ks P vs tl rs i) (F : Fr h₀ L h' m') (N : News h₀ L h' ((D, o) :: (P, PySem.W.listOf vs.toArray nn) :: (tl ++ news)))
    (hk : ∀ p ∈ [(Str.ofString "found", Value.none)], m' p.1 = some p.2) (hr : ∀ z, (∀ p ∈ [(Str.ofString "found", Value.none)], z ≠ p.1) → spSt.contains z = false → m' z = m₀ z)
    (e : piecesM ks i = pieces ks (i + 2)) (hn : nextM ks (i + 2) = none) :
    KswEnd h₀ L s (spLed ks P news) spPs (spF w b ks P) spSt m₀ (spP ks) (spM ks) (some (D, i, t1, t2, cc), vs, nn, tl, rs) { s with heap := h', toks := tk } :=
  ksw_end (none, vs, nn, tl, rs) F N (fun p hp => .tail _ hp) ⟨I.1, trivial, I.2.1, I.2.2.1⟩ hk hr (by
    show pieces ks 0 = rs
    rw [I.2.2.2.2.2.2, e, pieces_none hn, List.append_nil]) (Nat.succ_pos _)
theorem sp_same_some (I : SpI w b ks P vs tl rs i) (F : Fr h₀ L h' m') (N : News h₀ L h' ((D', tup2 j (ks.getD (j + 1).toNat 0) u1 u2 c') :: (D, o) :: (P, PySem.W.listOf vs.toArray nn) :: (tl ++ news))) (hD : @LT.lt Nat _ P D')
    (hk : ∀ p ∈ [(Str.ofString "found", Value.ref D')], m' p.1 = some p.2) (hr : ∀ z, (∀ p ∈ [(Str.ofString "found", Value.ref D')], z ≠ p.1) → spSt.contains z = false → m' z = m₀ z)
    (e : piecesM ks i = pieces ks (i + 2)) (hn : nextM ks (i + 2) = some j) :
    KswEnd h₀ L s (spLed ks P news) spPs (spF w b ks P) spSt m₀ (spP ks) (spM ks) (some (D, i, t1, t2, cc), vs, nn, tl, rs) { s with heap := h', toks := tk } :=
  have hj := nextM_some hn
  ksw_end (some (D', j, u1, u2, c'), vs, nn, tl, rs) F N (fun p hp => by
    rcases List.mem_cons.mp hp with rfl | hp
    · exact .head _
    · exact .tail _ (.tail _ hp)) ⟨I.1, hD, I.2.1, I.2.2.1⟩ hk hr ⟨by omega, hj.2.1, by omega, by
    rw [I.2.2.2.2.2.2, e, pieces_some hn]⟩ (by show _ + 1 < _ + 1; omega)
variable {x dx : Addr} {e d : Int} {k1 k2 k3 v1 v2 v3 : Tok}
theorem sp_new (I : SpI w b ks P vs tl rs i) (hx : @LT.lt Nat _ P x) (hdx : @LT.lt Nat _ P dx) :
    spF w b ks P (none, vs ++ [.ref x], nn + 1, (x, instObj 46 dx) :: (dx, dictOf (pcDict w b ks (i, e, d) k1 k2 k3 v1 v2 v3) 3) :: tl, rs ++ [(i, e, d)]) := by
  have lt : ∀ q ∈ (x, instObj 46 dx) :: (dx, dictOf (pcDict w b ks (i, e, d) k1 k2 k3 v1 v2 v3) 3) :: tl, @LT.lt Nat _ P q.1 := by
    intro q hq
    rcases List.mem_cons.mp hq with rfl | hq
    · exact hx
    rcases List.mem_cons.mp hq with rfl | hq
    · exact hdx
    · exact I.2.1 q hq
  refine ⟨fun q hq a ha => ?_, trivial, lt, ?_⟩
  · rw [List.mem_singleton.mp ha]
    exact (Nat.ne_of_lt (lt q hq)).symm
  · exact Each.snoc (I.2.2.1.mono (PcAt.mono fun p hp => .tail _ (.tail _ hp))) ⟨x, dx, k1, k2, k3, v1, v2, v3, rfl, .head _, .tail _ (.head _)⟩
theorem sp_new_none (I : SpI w b ks P vs tl rs i) (hx : @LT.lt Nat _ P x) (hdx : @LT.lt Nat _ P dx) (F : Fr h₀ L h' m') (N : News h₀ L h' ((x, instObj 46 dx) :: (dx, dictOf (pcDict w b ks (i, e, d) k1 k2 k3 v1 v2 v3) 3) :: (D, o) :: (P, PySem.W.listOf (vs.toArray.push (.ref x)) (nn + 1)) :: (tl ++ news)))
    (hk : ∀ p ∈ [(Str.ofString "found", Value.none)], m' p.1 = some p.2) (hr : ∀ z, (∀ p ∈ [(Str.ofString "found", Value.none)], z ≠ p.1) → spSt.contains z = false → m' z = m₀ z)
    (he : piecesM ks i = (i, e, d) :: pieces ks d) (hn : nextM ks d = none) :
    KswEnd h₀ L s (spLed ks P news) spPs (spF w b ks P) spSt m₀ (spP ks) (spM ks) (some (D, i, t1, t2, cc), vs, nn, tl, rs) { s with heap := h', toks := tk } := by
  rw [List.push_toArray] at N
  refine ksw_end (none, vs ++ [.ref x], nn + 1, (x, instObj 46 dx) :: (dx, dictOf (pcDict w b ks (i, e, d) k1 k2 k3 v1 v2 v3) 3) :: tl, rs ++ [(i, e, d)]) F N (fun p hp => ?_) (sp_new I hx hdx) hk hr ?_ (Nat.succ_pos _)
  · rcases List.mem_cons.mp hp with rfl | hp
    · exact .tail _ (.tail _ (.tail _ (.head _)))
    rcases List.mem_cons.mp hp with rfl | hp
    · exact .head _
    rcases List.mem_cons.mp hp with rfl | hp
    · exact .tail _ (.head _)
    · exact .tail _ (.tail _ (.tail _ (.tail _ hp)))
  · show pieces ks 0 = rs ++ [(i, e, d)]
    rw [I.2.2.2.2.2.2, he, pieces_none hn]
theorem sp_new_some (I : SpI w b ks P vs tl rs i) (hx : @LT.lt Nat _ P x) (hdx : @LT.lt Nat _ P dx) (F : Fr h₀ L h' m') (N : News h₀ L h' ((D', tup2 j (ks.getD (j + 1).toNat 0) u1 u2 c') :: (x, instObj 46 dx) :: (dx, dictOf (pcDict w b ks (i, e, d) k1 k2 k3 v1 v2 v3) 3) :: (D, o) :: (P, PySem.W.listOf (vs.toArray.push (.ref x)) (nn + 1)) :: (tl ++ news))) (hD : @LT.lt Nat _ P D')
    (hk : ∀ p ∈ [(Str.ofString "found", Value.ref D')], m' p.1 = some p.2) (hr : ∀ z, (∀ p ∈ [(Str.ofString "found", Value.ref D')], z ≠ p.1) → spSt.contains z = false → m' z = m₀ z)
    (he : piecesM ks i = (i, e, d) :: pieces ks d) (hn : nextM ks d = some j) (hd : i + 2 ≤ d) :
    KswEnd h₀ L s (spLed ks P news) spPs (spF w b ks P) spSt m₀ (spP ks) (spM ks) (some (D, i, t1, t2, cc), vs, nn, tl, rs) { s with heap := h', toks := tk } := by
  rw [List.push_toArray] at N
  have hj := nextM_some hn
  have hF := sp_new (nn := nn) (k1 := k1) (k2 := k2) (k3 := k3) (v1 := v1) (v2 := v2) (v3 := v3) (e := e) (d := d) I hx hdx
  refine ksw_end (some (D', j, u1, u2, c'), vs ++ [.ref x], nn + 1, (x, instObj 46 dx) :: (dx, dictOf (pcDict w b ks (i, e, d) k1 k2 k3 v1 v2 v3) 3) :: tl, rs ++ [(i, e, d)]) F N (fun p hp => ?_) ⟨hF.1, hD, hF.2.2⟩ hk hr ⟨by omega, hj.2.1, ?_, ?_⟩ ?_
  · rcases List.mem_cons.mp hp with rfl | hp
    · exact .head _
    rcases List.mem_cons.mp hp with rfl | hp
    · exact .tail _ (.tail _ (.tail _ (.tail _ (.head _))))
    rcases List.mem_cons.mp hp with rfl | hp
    · exact .tail _ (.head _)
    rcases List.mem_cons.mp hp with rfl | hp
    · exact .tail _ (.tail _ (.head _))
    · exact .tail _ (.tail _ (.tail _ (.tail _ (.tail _ hp))))
  · have := I.2.2.2.2.2.1
    rw [List.length_append, List.length_singleton]
    omega
  · rw [I.2.2.2.2.2.2, he, pieces_some hn, List.append_assoc]
    rfl
  · show _ + 1 < _ + 1
    omega
end

def SpOut (w : World) (b : Array UInt8) (ks : List Int) (tl : List (Addr × Obj)) (r : Value) : Prop :=
  ∃ P vs nn tl', r = .ref P ∧ tl = (P, PySem.W.listOf (List.toArray vs) nn) :: tl' ∧ (∀ q ∈ tl', @LT.lt Nat _ P q.1) ∧ Each (PcAt w b ks tl') vs (pieces ks 0)
theorem sp_ret {w : World} {b : Array UInt8} {ks : List Int} {h₀ : Heap} {L : Addr} {m : Str → Option Value} {news news' : List (Addr × Obj)} {s : Shared} {Q : Value → Shared → Prop} {P : Addr} {vs : List Value} {nn : Nat} {tl : List (Addr × Obj)} {rs : List (Int × Int × Int)} {h' : Heap} {tk' : Nat}
    (hret : RetT h₀ L m news s Q (SpOut w b ks)) (F : Fr h₀ L h' m) (N : News h₀ L h' news') (hs : ∀ p ∈ (P, PySem.W.listOf vs.toArray nn) :: (tl ++ news), p ∈ news') (hl : ∀ p ∈ news, p.1 < P) (hlt : ∀ q ∈ tl, @LT.lt Nat _ P q.1) (h4 : Each (PcAt w b ks tl) vs rs) (e : pieces ks 0 = rs) :
    Q (.ref P) { s with heap := h', toks := tk' } := by
  refine hret _ ((P, PySem.W.listOf vs.toArray nn) :: tl) h' tk' F (fun p hp => N p (hs p hp)) (fun p hp q hq => ?_) ⟨P, vs, nn, tl, rfl, rfl, hlt, by rw [e]; exact h4⟩
  rcases List.mem_cons.mp hq with rfl | hq
  · exact hl p hp
  · exact Nat.lt_trans (hl p hp) (hlt q hq)
section
variable {w : World} {mean : ExcName → Option Value} {mg mb : Str → Option Value}
local macro_rules | `(tactic| walk_at "Mine.ret") => `(tactic| (refine' ret_end (tl := []) ?k1 ?k2 ?k3 ?k4 no_lt ?_; (case k1 => assumption); (case k2 => k_asm); (case k3 => assumption); (case k4 => (simp only [List.nil_append]; kcj_all))))
local macro_rules | `(tactic| walk_at "call ref") => `(tactic| (k_here; k_dflt (refine' ctr_use (c_has_length _ _) ?k1 ?k2 ?k3 ?k4 ?k5 ?kK ?kd ?ku ?kp ?_); (case k1 => k_asm); (case k2 => k_asm); (case k3 => k_asm); (case k4 => k_asm); (case k5 => k_asm); (case kK => first | exact rfl | assumption); (case kd => ktr_room); (case ku => ktr_units); (case kp => trivial); intro r9 tl9 h9 tk9 F9 N9 l9 o9; obtain ⟨o1, o2⟩ := o9; subst o1; subst o2; (simp only [List.nil_append] at N9); clear l9; (try dsimp only); (try k_fold)))
local macro_rules | `(tactic| walk_at "call ref") => `(tactic| (k_here; k_dflt (refine' ctr_use (c_behind_segment ?kb ?kl _ _ _ ?kn) ?k1 ?k2 ?k3 ?k4 ?k5 ?kK ?kd ?ku ?kp ?_); (case kb => assumption); (case kl => assumption); (case kn => first | assumption | omega); (case k1 => k_asm); (case k2 => k_asm); (case k3 => k_asm); (case k4 => k_asm); (case k5 => k_asm); (case kK => first | exact rfl | assumption); (case kd => ktr_room); (case ku => ktr_units); (case kp => trivial); intro r9 tl9 h9 tk9 F9 N9 l9 o9; obtain ⟨o1, o2⟩ := out_cases o9; clear o9; subst o1; (simp only [List.nil_append] at N9); clear l9; (rcases o2 with ⟨o3, o4⟩ | ⟨x9, t9, o3, o4⟩) <;> (subst o4; (try have b9 := behindS_some o3); (try dsimp only); (try k_fold))))
local macro_rules | `(tactic| walk_at "call ref") => `(tactic| (k_here; k_dflt (refine' ctr_use (c_next_marker ?kb ?kl _ _ _ ?kn) ?k1 ?k2 ?k3 ?k4 ?k5 ?kK ?kd ?ku ?kp ?_); (case kb => assumption); (case kl => assumption); (case kn => first | assumption | omega); (case k1 => k_asm); (case k2 => k_asm); (case k3 => k_asm); (case k4 => k_asm); (case k5 => k_asm); (case kK => first | exact rfl | assumption); (case kd => ktr_room); (case ku => ktr_units); (case kp => trivial); intro r9 tl9 h9 tk9 F9 N9 l9 o9; (rcases nm_cases o9 with ⟨o1, o2, o3⟩ | ⟨i9, D9, u1, u2, c9, o1, o2, o3⟩) <;> (clear o9; subst o2; subst o3; (simp only [List.nil_append, List.cons_append] at N9); (first | (replace l9 := lt_one l9; k_lt l9) | clear l9); (try have b9 := nextM_some o1); (try dsimp only); (try k_fold))))
local macro_rules | `(tactic| walk_at "call ref") => `(tactic| (k_here; k_dflt (refine' ctr_use (c_salvaged_end ?kb ?kl _ _ _ ?kn ?km) ?k1 ?k2 ?k3 ?k4 ?k5 ?kK ?kd ?ku ?kp ?_); (case kb => assumption); (case kl => assumption); (case kn => first | assumption | omega); (case km => first | assumption | omega); (case k1 => k_asm); (case k2 => k_asm); (case k3 => k_asm); (case k4 => k_asm); (case k5 => k_asm); (case kK => first | exact rfl | assumption); (case kd => ktr_room); (case ku => ktr_units); (case kp => trivial); intro r9 tl9 h9 tk9 F9 N9 l9 o9; obtain ⟨o1, t9, o2, b9⟩ := o9; subst o1; subst o2; (simp only [List.nil_append] at N9); clear l9; (try dsimp only); (try k_fold)))

local macro_rules | `(tactic| walk_at "call type:bytes") => `(tactic| (k_here; (with_reducible show wpAny _ _ (call (Value.type "bytes") [Value.bytes _ _]) _ _ _); refine call_bytes_bytes ?_))
local macro_rules | `(tactic| walk_at "call ref") => `(tactic| (k_here; k_dflt (refine' call_cls ?k1 ?k2 ?k3 ?k4 ?k5 ?k6 ?_; (case k1 => k_asm); (case k2 => k_asm); (case k3 => k_asm); (case k4 => k_is); (case k5 => k_is); (case k6 => k_is); k_whole; intro x' d' h' F' N' l1 l2; (try k_lt l1); (try k_lt2 l2); (try k_sweep); (refine' code_def ?k1 ?k2 ?k3 ?k4 ?k5 ?kA ?kF ?kK ?k6 ?k7 ?k8 ?k9 ?kB ?_ ?c2 ?c3 ?c4 ?c5; (case kA => exact rfl); (case kF => exact rfl); (case kK => first | exact rfl | assumption); (case k1 => k_asm); (case k2 => k_asm); (case k3 => k_asm); (case k4 => k_asm); (case k5 => k_asm); (case k6 => k_is); (case k7 => k_is); (case k8 => ktr_room); (case k9 => first | exact BindsTo.of_eq rfl | exact binds_K (by k_in) rfl (by k_is) rfl rfl rfl); (case c5 => decide); (case kB => exact locs rfl); (case c2 => exact rfl); (case c3 => exact rfl); (case c4 => exact rfl); k_whole; intro g' L' h' FG' F' N' B' X' T'; (try dsimp only); (try k_fold)))))
local macro_rules | `(tactic| walk_at "KswEnd") => `(tactic| refine stop_here ?_)
set_option maxHeartbeats 2000000 in
theorem c_salvaged_pieces {b : Array UInt8} {ks : List Int} (hb : KBw.bInts b = ks) (hl : ks.length ≤ 64) (tb : Tok) :
    Ctr w mean mg mb 5 85 [.bytes b tb] (fun _ => True) (SpOut w b ks) := by
  unfold Ctr
  intro dp un gd cn cs a ccd cl outer A₀ base h₀ L m news s Q E B F X N T hk hdp hun hpre hret
  w_top off
  k_with_none
  refine wpAny_call ?_
  k_dflt ktr_enter
  have kMark := kstMark
  k_with "exec While BoolOp cons nil" => refine stop_here ?_
  k_steps
  · unfold Stop
    k_with_none
    k_steps
    refine' sp_ret (vs := []) (tl := []) (rs := []) ?k1 ?k2 ?k3 ?k4 ?k5 ?k6 ?k7 ?k8
    case k1 => assumption
    case k2 => k_asm
    case k3 => assumption
    case k4 => exact fun _ h => h
    case k5 => assumption
    case k6 => exact fun _ h => nomatch h
    case k7 => trivial
    case k8 => exact pieces_none (by assumption)
  · unfold Stop
    rename Fr _ _ _ _ => lF'
    rename News _ _ _ _ => lN'
    refine' sp_while (b := b) lF' lN' ?_ ?_ (by assumption) ?_
    · rename @LT.lt Nat _ _ _ ∧ _ => hlt
      exact hlt.1
    · with_unfolding_all rfl
    clear lF' lN'
    rintro ⟨f, vs, nn, tl, rs⟩ u h tk hO hP hF hN
    rcases f with _ | ⟨D, i, t1, t2, cc⟩ <;> dsimp only [spLed, spPs, spF, spP, fdLed, fdVal, fdOff, kstB] at hP hF hN hO
    all_goals obtain ⟨hO1, hO2, hO3, hO4⟩ := hO
    all_goals (try k_fold)
    k_steps
    · refine' sp_ret (vs := vs) (tl := tl) ?k1 ?k2 ?k3 ?k4 ?k5 ?k6 ?k7 ?k8
      case k1 => assumption
      case k2 => k_asm
      case k3 => assumption
      case k4 => exact fun _ h => h
      case k5 => assumption
      case k6 => exact hO3
      case k7 => exact hO4
      case k8 => exact hP
    all_goals have I : SpI w b ks _ vs tl rs i := ⟨hO1, hO3, hO4, hP⟩
    rotate_right
    · refine' sp_ret (vs := vs) (tl := tl) ?k1 ?k2 ?k3 ?k4 ?k5 ?k6 ?k7 ?k8
      case k1 => assumption
      case k2 => k_asm
      case k3 => assumption
      case k4 => exact fun _ h => .tail _ h
      case k5 => assumption
      case k6 => exact hO3
      case k7 => exact hO4
      case k8 => rw [hP.2.2.2, pm_eoi (by assumption), List.append_nil]
    all_goals unfold Stop
    · refine' sp_same_none I ?a1 ?a2 ?a3 ?a4 ?a5 ?a6
      case a1 => assumption
      case a2 => assumption
      case a3 => kst_all
      case a4 => ksw_same
      case a5 => exact pm_skip1 (by assumption) (by assumption) (by assumption)
      case a6 => assumption
    · refine' sp_same_some I ?a1 ?a2 ?a7 ?a3 ?a4 ?a5 ?a6
      case a1 => assumption
      case a2 => assumption
      case a3 => kst_all
      case a4 => ksw_same
      case a5 => exact pm_skip1 (by assumption) (by assumption) (by assumption)
      case a6 => assumption
      case a7 => omega
    · refine' sp_new_none I ?b1 ?b2 ?a1 ?a2 ?a3 ?a4 ?a5 ?a6
      case a1 => assumption
      case a2 => assumption
      case a3 => kst_all
      case a4 => ksw_same
      case a5 => exact pm_new1 (by assumption) (by assumption) (by assumption) (by assumption)
      case a6 => assumption
      case b1 => omega
      case b2 => omega
    · refine' sp_new_some I ?b1 ?b2 ?a1 ?a2 ?a7 ?a3 ?a4 ?a5 ?a6 ?b3
      case a1 => assumption
      case a2 => assumption
      case a3 => kst_all
      case a4 => ksw_same
      case a5 => exact pm_new1 (by assumption) (by assumption) (by assumption) (by assumption)
      case a6 => assumption
      case a7 => omega
      case b1 => omega
      case b2 => omega
      case b3 => omega
    · refine' sp_new_none I ?b1 ?b2 ?a1 ?a2 ?a3 ?a4 ?a5 ?a6
      case a1 => assumption
      case a2 => assumption
      case a3 => kst_all
      case a4 => ksw_same
      case a5 => exact pm_new2 (by assumption) (by assumption) (by assumption) (by assumption)
      case a6 => assumption
      case b1 => omega
      case b2 => omega
    · refine' sp_new_some I ?b1 ?b2 ?a1 ?a2 ?a7 ?a3 ?a4 ?a5 ?a6 ?b3
      case a1 => assumption
      case a2 => assumption
      case a3 => kst_all
      case a4 => ksw_same
      case a5 => exact pm_new2 (by assumption) (by assumption) (by assumption) (by assumption)
      case a6 => assumption
      case a7 => omega
      case b1 => omega
      case b2 => omega
      case b3 => omega
    · refine' sp_same_none I ?a1 ?a2 ?a3 ?a4 ?a5 ?a6
      case a1 => assumption
      case a2 => assumption
      case a3 => kst_all
      case a4 => ksw_same
      case a5 => exact pm_skip2 (by assumption) (by assumption)
      case a6 => assumption
    · refine' sp_same_some I ?a1 ?a2 ?a7 ?a3 ?a4 ?a5 ?a6
      case a1 => assumption
      case a2 => assumption
      case a3 => kst_all
      case a4 => ksw_same
      case a5 => exact pm_skip2 (by assumption) (by assumption)
      case a6 => assumption
      case a7 => omega
end
end Mine
end

section
open PySem PySem.W PySem.Calls PyProof.Rows
namespace Mine
theorem lhl1 {n : Int} (h : ([1, 216, 217].any fun x => x == n) = true) : (!([1, 216, 217].any fun x => x == n)) = hasLen n := by
  rw [h]
  simp only [List.any_cons, List.any_nil, Bool.or_false, Bool.or_eq_true, beq_iff_eq] at h
  rcases h with rfl | rfl | rfl <;> decide
theorem lhl0 {n : Int} (h : ([1, 216, 217].any fun x => x == n) = false) : n ≠ 216 ∧ n ≠ 217 ∧ n ≠ 1 := by
  refine ⟨?_, ?_, ?_⟩ <;> (rintro rfl; revert h; decide)
theorem lhl2 {n : Int} (h : ([1, 216, 217].any fun x => x == n) = false) (h2 : 208 ≤ n) : (!decide (n ≤ 215)) = hasLen n := by
  have e := lhl0 h
  rw [← decide_not]
  exact decide_eq_decide.mpr ⟨fun h => ⟨e.1, e.2.1, e.2.2, fun q => h q.2⟩, fun h q => h.2.2.2 ⟨h2, q⟩⟩
theorem lhl3 {n : Int} (h : ([1, 216, 217].any fun x => x == n) = false) (h2 : ¬ 208 ≤ n) : (!decide (208 ≤ n)) = hasLen n := by
  have e := lhl0 h
  rw [← decide_not]
  exact decide_eq_decide.mpr ⟨fun h => ⟨e.1, e.2.1, e.2.2, fun q => h q.1⟩, fun _ => h2⟩
theorem isEnd_8 {ks : List Int} {n x : Int} {p : Array UInt8} (h : ks.getD (n + 1).toNat 0 ≠ 217) (h5 : ks.getD (n + 1).toNat 0 ≠ 218) (h3 : ¬ ks.getD (n + 1).toNat 0 < 192) (hn : 0 ≤ n)
    (h2 : hasLen (ks.getD (n + 1).toNat 0) = true ∧ behindS ks n = some x ∧ n + 4 ≤ x ∧ x ≤ (ks.length : Int))
    (hp : KBw.bInts p = List.take (clipAt ks.length (x + 1) - clipAt ks.length x) (List.drop (clipAt ks.length x) ks)) :
    ([] == p.toList || [255] == p.toList) = isEnd ks n := by
  rw [isEnd_some h h2.1 h3 h2.2.1, decide_eq_false h5, Bool.false_or]
  have c1 : clipAt ks.length x = x.toNat := by unfold clipAt; split <;> omega
  rw [c1] at hp
  by_cases hx : x = (ks.length : Int)
  · have e : p.toList = [] := by
      have : KBw.bInts p = [] := by rw [hp, List.drop_eq_nil_of_le (by omega), List.take_nil]
      simpa [KBw.bInts] using this
    rw [e, decide_eq_true hx]
    rfl
  · have hlt : x.toNat < ks.length := by omega
    have c2 : clipAt ks.length (x + 1) = x.toNat + 1 := by unfold clipAt; split <;> omega
    rw [c2, show x.toNat + 1 - x.toNat = 1 by omega, List.drop_eq_getElem_cons hlt, List.take_succ_cons, List.take_zero] at hp
    have hg : ks.getD x.toNat 0 = ks[x.toNat] := by rw [List.getD_eq_getElem?_getD, List.getElem?_eq_getElem hlt, Option.getD_some]
    rw [decide_eq_false hx, Bool.false_or, hg]
    unfold KBw.bInts at hp
    obtain ⟨c, e, ec⟩ := List.map_eq_singleton_iff.mp hp
    rw [e, ← ec]
    by_cases hc : c = 255
    · subst hc; rfl
    · have : ¬ ((c.toNat : Int) = 255) := fun q => hc (UInt8.toNat_inj.mp (by rw [show (255 : UInt8).toNat = 255 from rfl]; omega))
      rw [decide_eq_false this]
      have : ([255] == [c]) = false := by simp; exact fun q => hc q.symm
      rw [this]; rfl
def behL (ks : List Int) (n : Int) : Int := if hasLen (ks.getD (n + 1).toNat 0) = true then (behindS ks n).getD (-1) else -1
theorem behL_cases (ks : List Int) (n : Int) : (behL ks n = -1 ∧ (hasLen (ks.getD (n + 1).toNat 0) = false ∨ behindS ks n = none)) ∨ ∃ e, behL ks n = e ∧ hasLen (ks.getD (n + 1).toNat 0) = true ∧ behindS ks n = some e ∧ n + 4 ≤ e ∧ e ≤ (ks.length : Int) := by
  unfold behL
  cases h : hasLen (ks.getD (n + 1).toNat 0) with
  | false => exact .inl ⟨by rw [if_neg Bool.false_ne_true], .inl rfl⟩
  | true =>
    rw [if_pos rfl]
    cases h2 : behindS ks n with
    | none => exact .inl ⟨rfl, .inr rfl⟩
    | some e => exact .inr ⟨e, rfl, rfl, rfl, behindS_some h2⟩
theorem lb0 {ks : List Int} {n : Int} (h : hasLen (ks.getD (n + 1).toNat 0) = false) : -1 = behL ks n := by
  unfold behL; rw [h, if_neg Bool.false_ne_true]
theorem lbn {ks : List Int} {n : Int} (h : hasLen (ks.getD (n + 1).toNat 0) = true) (h2 : behindS ks n = none) : -1 = behL ks n := by
  unfold behL; rw [h, if_pos rfl, h2]; rfl
theorem lb1 {ks : List Int} {n : Int} (h : hasLen (ks.getD (n + 1).toNat 0) = true) (h1 : (ks.length : Int) < n + 4) : -1 = behL ks n := lbn h (bs_none1 h1)
theorem lb2 {ks : List Int} {n : Int} (h : hasLen (ks.getD (n + 1).toNat 0) = true) (h1 : ¬ (ks.length : Int) < n + 4) (h2 : ¬ n + 2 + (ks.getD (n + 2).toNat 0 * 256 + ks.getD (n + 3).toNat 0) ≤ (ks.length : Int)) : -1 = behL ks n := lbn h (bs_none2 h1 (by omega))
theorem lb3 {ks : List Int} {n : Int} (h : hasLen (ks.getD (n + 1).toNat 0) = true) (h1 : ¬ (ks.length : Int) < n + 4) (h2 : ¬ 2 ≤ ks.getD (n + 2).toNat 0 * 256 + ks.getD (n + 3).toNat 0) : -1 = behL ks n := lbn h (bs_none3 h1 (by omega))
theorem lb4 {ks : List Int} {n : Int} (h : hasLen (ks.getD (n + 1).toNat 0) = true) (h1 : ¬ (ks.length : Int) < n + 4) (h2 : 2 ≤ ks.getD (n + 2).toNat 0 * 256 + ks.getD (n + 3).toNat 0) (h3 : n + 2 + (ks.getD (n + 2).toNat 0 * 256 + ks.getD (n + 3).toNat 0) ≤ (ks.length : Int)) :
    n + 2 + (ks.getD (n + 2).toNat 0 * 256 + ks.getD (n + 3).toNat 0) = behL ks n := by
  unfold behL
  rw [h, if_pos rfl, bs_some h1 (by omega) (by omega), Option.getD_some, ← Int.add_assoc]
section
variable {prog : Program} {w : World} {A : Around} {E : Value → Shared → Prop} {s : Shared}
theorem eqBool_bytes {x y : Array UInt8} {t u : Tok} {Q : Bool → Shared → Prop} (h : Q (x.toList == y.toList) s) : wpAny (model prog w) A (eqBool (.bytes x t) (.bytes y u)) Q E s := by
  unfold eqBool
  show wpAny _ _ (if (Value.bytes x t == Value.bytes y u) = true then _ else _) Q E s
  by_cases hab : (Value.bytes x t == Value.bytes y u) = true
  · rw [if_pos hab]
    have e : x = y := by have := eq_of_beq hab; injection this
    subst e
    exact wpAny_bind (wpAny_rule (wpAny_pure (by simpa using h)))
  · rw [if_neg hab]
    exact wpAny_bind (eq_bytes (wpAny_truthy_bool h))
theorem eqAt_bytes (x y : Array UInt8) (t u : Tok) : SeqAt.EqAt A s (.bytes x t) (.bytes y u) (x.toList == y.toList) := fun _ _ _ _ hq => eqBool_bytes hq
def isB (x : Array UInt8) : Value → Bool
  | .bytes y _ => y.toList == x.toList
  | _ => false
theorem in_two_bytes {h₀ : Heap} {L : Addr} {D : Addr} {x y z : Array UInt8} {t u v : Tok} {news : List (Addr × Obj)} {Q : Value → Shared → Prop} (N : News h₀ L s.heap news) (hm : (D, ({ cls := .type "tuple", data := .seq #[.bytes y u, .bytes z v] } : Obj)) ∈ news)
    (h : Q (.bool (y.toList == x.toList || z.toList == x.toList)) s) : wpAny (model prog w) A (compareOp .In (.bytes x t) (.ref D)) Q E s := by
  refine SeqAt.in_tupleAt (isB x) ⟨_, N.get hm, rfl, _, rfl⟩ (fun q hq => ?_) (by simpa [isB] using h)
  have : q = .bytes y u ∨ q = .bytes z v := by simpa using hq
  rcases this with rfl | rfl
  · exact eqAt_bytes _ _ _ _
  · exact eqAt_bytes _ _ _ _
end
section
variable {w : World} {mean : ExcName → Option Value} {mg mb : Str → Option Value}
local macro_rules | `(tactic| walk_at "Mine.ret") => `(tactic| (refine' ret_end (tl := []) ?k1 ?k2 ?k3 ?k4 no_lt ?_; (case k1 => assumption); (case k2 => k_asm); (case k3 => assumption); (case k4 => (simp only [List.nil_append]; kcj_all))))
set_option maxHeartbeats 2000000 in
theorem c_law_has_length (n : Int) (t : Tok) :
    Ctr w mean mg mb 2 113 [.int n t] (fun _ => True) (fun tl r => tl = [] ∧ r = .bool (hasLen n)) := by
  unfold Ctr
  intro dp un gd cn cs a ccd cl outer A₀ base h₀ L m news s Q E B F X N T hk hdp hun hpre hret
  w_top off
  k_with_none
  refine wpAny_call ?_
  k_dflt ktr_enter
  k_steps
  all_goals (walk_at "Mine.ret"; refine ⟨rfl, congrArg Value.bool ?_⟩)
  · exact lhl1 (by assumption)
  · exact lhl2 (by assumption) (by assumption)
  · exact lhl3 (by assumption) (by assumption)
local macro_rules | `(tactic| walk_at "call ref") => `(tactic| (k_here; k_dflt (refine' ctr_use (c_law_has_length _ _) ?k1 ?k2 ?k3 ?k4 ?k5 ?kK ?kd ?ku ?kp ?_); (case k1 => k_asm); (case k2 => k_asm); (case k3 => k_asm); (case k4 => k_asm); (case k5 => k_asm); (case kK => first | exact rfl | assumption); (case kd => ktr_room); (case ku => ktr_units); (case kp => trivial); intro r9 tl9 h9 tk9 F9 N9 l9 o9; obtain ⟨o1, o2⟩ := o9; subst o1; subst o2; (simp only [List.nil_append] at N9); clear l9; (try dsimp only); (try k_fold)))
set_option maxHeartbeats 2000000 in
theorem c_law_behind {b : Array UInt8} {ks : List Int} (hb : KBw.bInts b = ks) (hl : ks.length ≤ 64) (tb : Tok) (n : Int) (tn : Tok) (hn : 0 ≤ n) (hm : n + 1 < (ks.length : Int)) :
    Ctr w mean mg mb 3 125 [.bytes b tb, .int n tn] (fun _ => True) (fun tl r => tl = [] ∧ ∃ t, r = .int (behL ks n) t) := by
  unfold Ctr
  intro dp un gd cn cs a ccd cl outer A₀ base h₀ L m news s Q E B F X N T hk hdp hun hpre hret
  w_top off
  k_with_none
  refine wpAny_call ?_
  k_dflt ktr_enter
  k_steps
  all_goals (walk_at "Mine.ret"; refine ⟨rfl, _, congrArg (Value.int · _) ?_⟩)
  · exact lb1 (by assumption) (by assumption)
  · exact lb4 (by assumption) (by assumption) (by assumption) (by assumption)
  · exact lb2 (by assumption) (by assumption) (by assumption)
  · exact lb3 (by assumption) (by assumption) (by assumption)
  · exact lb0 (by assumption)
local macro_rules | `(tactic| walk_at "call ref") => `(tactic| (k_here; k_dflt (refine' ctr_use (c_law_behind ?kb ?kl _ _ _ ?kn ?km) ?k1 ?k2 ?k3 ?k4 ?k5 ?kK ?kd ?ku ?kp ?_); (case kb => assumption); (case kl => assumption); (case kn => first | assumption | omega); (case km => first | assumption | omega); (case k1 => k_asm); (case k2 => k_asm); (case k3 => k_asm); (case k4 => k_asm); (case k5 => k_asm); (case kK => first | exact rfl | assumption); (case kd => ktr_room); (case ku => ktr_units); (case kp => trivial); intro r9 tl9 h9 tk9 F9 N9 l9 o9; obtain ⟨o1, t9, o2⟩ := o9; subst o1; (simp only [List.nil_append] at N9); clear l9; (rcases behL_cases _ _ with ⟨o3, o4⟩ | ⟨x9, o3, o4⟩) <;> (rw [o3] at o2; subst o2; clear o3; (try dsimp only); (try k_fold))))
local macro_rules | `(tactic| walk_at "compareOp In bytes ref") => `(tactic| (k_here; (with_reducible show wpAny _ _ (compareOp CmpOp.In (Value.bytes _ _) (Value.ref _)) _ _ _); (refine in_two_bytes (by assumption) (.head _) ?_)))
set_option maxHeartbeats 2000000 in
theorem c_law_is_end {b : Array UInt8} {ks : List Int} (hb : KBw.bInts b = ks) (hl : ks.length ≤ 64) (tb : Tok) (n : Int) (tn : Tok) (hn : 0 ≤ n) (hm : n + 1 < (ks.length : Int)) :
    Ctr w mean mg mb 4 132 [.bytes b tb, .int n tn] (fun _ => True) (fun tl r => tl = [] ∧ r = .bool (isEnd ks n)) := by
  unfold Ctr
  intro dp un gd cn cs a ccd cl outer A₀ base h₀ L m news s Q E B F X N T hk hdp hun hpre hret
  w_top off
  k_with_none
  refine wpAny_call ?_
  k_dflt ktr_enter
  k_steps
  all_goals ((walk_at "Mine.ret"; refine ⟨rfl, congrArg Value.bool ?_⟩))
  · exact (isEnd_1 (by assumption)).symm
  · rename _ ∨ _ => ho
    rcases ho with ho | ho
    · exact (isEnd_3 (by assumption) ho).symm
    · exact (isEnd_4 (by assumption) ho).symm
  · exact (isEnd_1 (by assumption)).symm
  · exact (isEnd_2 (by assumption) (by assumption)).symm
  · rename hasLen _ = true ∧ _ => ho
    exact isEnd_5 (by assumption) ho.1 (by assumption) ho.2.1 (by assumption)
  · exact isEnd_8 (by assumption) (by assumption) (by assumption) hn (by assumption) (by assumption)
end
end Mine
end

section
open PySem PySem.W PySem.Calls PyProof.Rows
namespace Mine
def FlEl (news : List (Addr × Obj)) (p : Int → Bool) (k : Int) (y : Value) (news' : List (Addr × Obj)) : Prop := news' = news ∧ p k = true ∧ ∃ t : Tok, y = .int k t
def FlNo (news : List (Addr × Obj)) (p : Int → Bool) (k : Int) (news' : List (Addr × Obj)) : Prop := news' = news ∧ p k = false
theorem compEnd_mono {h₀ : Heap} {L : Addr} {m : Str → Option Value} {s₁ : Shared} {I : Addr} {oI : Obj} {C : Addr} {oC : Obj} {D : Addr} {oD : Obj} {S : List (Addr × Obj) → Prop} {R R' : Value → List (Addr × Obj) → Prop} {y : Value} {s₂ : Shared}
    (h : LCg.CompEnd h₀ L m s₁ I oI C oC D oD S R y s₂) (hR : ∀ nw, R y nw → R' y nw) : LCg.CompEnd h₀ L m s₁ I oI C oC D oD S R' y s₂ := by
  obtain ⟨h', tk, nw, e, F, N, off, hS, r⟩ := h
  exact ⟨h', tk, nw, e, F, N, off, hS, hR nw r⟩
theorem filter_fold (p : Int → Bool) (ks : List Int) : ∀ l : List Int, ks.foldl (fun l k => if p k = true then l ++ [k] else l) l = l ++ ks.filter p := by
  induction ks with
  | nil => intro l; simp
  | cons k r ih =>
    intro l
    rw [List.foldl_cons, ih, List.filter_cons]
    cases h : p k with
    | true => simp
    | false => simp
theorem fl_grows (p : Int → Bool) : KPfGrows (fun l k => if p k = true then l ++ [k] else l) := by
  intro l k
  dsimp only
  split
  · rw [List.length_append, List.length_singleton]; exact Nat.le_refl _
  · exact Nat.le_succ _
section
variable {prog : Program} {w : World} {A : Around} {h₀ : Heap} {L : Addr} {m : Str → Option Value} {env : Env} {ct elt : Expr} {x : Str} {scope : Scope} {cl : List (Str × Addr)} {s : Shared} {S : List (Addr × Obj) → Prop} {Fin : List Value → List (Addr × Obj) → Prop} {news : List (Addr × Obj)}
theorem fl_turn {p : Int → Bool} {k : Int} {I : Addr} {oI : Obj} {C : Addr} {oC : Obj} {D : Addr} {oD : Obj} {l : List Int} {s₁ s₂ : Shared} {E' : Value → Shared → Prop}
    (h : wpAny (model prog w) A (isTrue ct (compEnvC scope cl C env) (eval ct (compEnvC scope cl C env))) (fun b s' => if b = true then wpAny (model prog w) A (eval elt (compEnvC scope cl C env)) (LCg.CompEnd h₀ L m s₁ I oI C oC D oD S (fun y news' => FlEl news p k y news')) E' s'
        else LCg.CompEnd h₀ L m s₁ I oI C oC D oD S (fun _ news' => FlNo news p k news') Value.none s') E' s₂) :
    wpAny (model prog w) A (isTrue ct (compEnvC scope cl C env) (eval ct (compEnvC scope cl C env))) (fun b s' => if b = true then wpAny (model prog w) A (eval elt (compEnvC scope cl C env)) (LCg.CompEnd h₀ L m s₁ I oI C oC D oD S (fun y news' => KCiEl news l ((fun l k => if p k = true then l ++ [k] else l) l k) y news')) E' s'
        else LCg.CompEnd h₀ L m s₁ I oI C oC D oD S (fun _ news' => KCiNo news l ((fun l k => if p k = true then l ++ [k] else l) l k) news') Value.none s') E' s₂ := by
  refine wpAny_mono h (fun b s' q => ?_) fun _ _ e => e
  cases b with
  | true =>
    simp only [if_true] at q ⊢
    refine wpAny_mono q (fun y s₃ r => ?_) fun _ _ e => e
    refine compEnd_mono r ?_
    rintro nw ⟨h1, h2, t, h3⟩
    exact ⟨h1, k, t, h3, by rw [h2]; simp⟩
  | false =>
    simp only [Bool.false_eq_true, if_false] at q ⊢
    refine compEnd_mono q ?_
    rintro nw ⟨h1, h2⟩
    exact ⟨h1, by rw [h2]; simp⟩
theorem fl_range {n : Nat} {a : Int} (p : Int → Bool)
    (turn : ∀ k t I oI C oC D m₂ ys h tk (E' : Value → Shared → Prop), a ≤ k → k < a + (n : Int) → LCg.NsObj oC m₂ → m₂ x = some (.int k t) → Fr h₀ L h m → News h₀ L h ((I, oI) :: (C, oC) :: (D, LCg.lst ys) :: news) → LCg.Off3 I C D news → ((@Ne Nat I C) ∧ (@Ne Nat I D) ∧ (@Ne Nat C D)) →
      wpAny (model prog w) A (isTrue ct (compEnvC scope cl C env) (eval ct (compEnvC scope cl C env))) (fun b s' => if b = true then wpAny (model prog w) A (eval elt (compEnvC scope cl C env)) (LCg.CompEnd h₀ L m { s with heap := h, toks := tk } I oI C oC D (LCg.lst ys) S (fun y news' => FlEl news p k y news')) E' s'
        else LCg.CompEnd h₀ L m { s with heap := h, toks := tk } I oI C oC D (LCg.lst ys) S (fun _ news' => FlNo news p k news') Value.none s') E' { s with heap := h, toks := tk })
    (fin : ∀ ys, IntsAre ys ((rangeKs a n).filter p) → ys.length ≤ n → Fin ys news) : LCt.CompRestT prog w A h₀ L m env ct elt x scope cl s S (fun i v => ∃ t, v = .int (a + (i : Int)) t) Fin n 0 [] news :=
  kci_range (fun l k => if p k = true then l ++ [k] else l)
    (fun k t I oI C oC D m₂ ys l h tk E' h1 h2 _ hC hx F N off ne _ => fl_turn (turn k t I oI C oC D m₂ ys h tk E' h1 h2 hC hx F N off ne))
    (fun ys hy hl => fin ys (by rw [filter_fold, List.nil_append] at hy; exact hy) hl) (fl_grows p)
theorem fl_list {vs : List Value} {ns : List Int} (p : Int → Bool) (hi : IntsAre vs ns)
    (turn : ∀ k t I oI C oC D m₂ ys h tk (E' : Value → Shared → Prop), k ∈ ns → LCg.NsObj oC m₂ → m₂ x = some (.int k t) → Fr h₀ L h m → News h₀ L h ((I, oI) :: (C, oC) :: (D, LCg.lst ys) :: news) → LCg.Off3 I C D news → ((@Ne Nat I C) ∧ (@Ne Nat I D) ∧ (@Ne Nat C D)) →
      wpAny (model prog w) A (isTrue ct (compEnvC scope cl C env) (eval ct (compEnvC scope cl C env))) (fun b s' => if b = true then wpAny (model prog w) A (eval elt (compEnvC scope cl C env)) (LCg.CompEnd h₀ L m { s with heap := h, toks := tk } I oI C oC D (LCg.lst ys) S (fun y news' => FlEl news p k y news')) E' s'
        else LCg.CompEnd h₀ L m { s with heap := h, toks := tk } I oI C oC D (LCg.lst ys) S (fun _ news' => FlNo news p k news') Value.none s') E' { s with heap := h, toks := tk })
    (fin : ∀ ys, IntsAre ys (ns.filter p) → ys.length ≤ vs.toArray.size → Fin ys news) : LCt.CompRestT prog w A h₀ L m env ct elt x scope cl s S (fun i v => vs.toArray[i]? = some v) Fin vs.toArray.size 0 [] news :=
  kci_list (fun l k => if p k = true then l ++ [k] else l) hi
    (fun k t I oI C oC D m₂ ys l h tk E' h1 _ hC hx F N off ne _ => fl_turn (turn k t I oI C oC D m₂ ys h tk E' h1 hC hx F N off ne))
    (fun ys hy hl => fin ys (by rw [filter_fold, List.nil_append] at hy; exact hy) hl) (fl_grows p)
end
end Mine
end

section
open PySem PySem.W PySem.Calls PyProof.Rows
namespace Mine
def laterL (ms : List Int) (n : Int) : Int := ((ms.filter fun m => decide (n ≤ m)).head?).getD (-1)
theorem ll_none {ms : List Int} {n : Int} (h : decide (List.filter (fun m => decide (n ≤ m)) ms = []) = true) : -1 = laterL ms n := by
  unfold laterL
  rw [of_decide_eq_true h]; rfl
theorem ll_some {ms : List Int} {n : Int} (h : decide (List.filter (fun m => decide (n ≤ m)) ms = []) = false) : (List.filter (fun m => decide (n ≤ m)) ms).getD (Int.toNat 0) 0 = laterL ms n := by
  unfold laterL
  have := of_decide_eq_false h
  cases e : List.filter (fun m => decide (n ≤ m)) ms with
  | nil => exact absurd e this
  | cons a r => rfl
section
variable {w : World} {mean : ExcName → Option Value} {mg mb : Str → Option Value}
local macro_rules | `(tactic| walk_at "Mine.pad") => `(tactic| skip)
local macro_rules | `(tactic| walk_at "Mine.ret") => `(tactic| (refine' ret_end (tl := []) ?k1 ?k2 ?k3 ?k4 no_lt ?_; (case k1 => assumption); (case k2 => k_asm); (case k3 => assumption); (case k4 => (simp only [List.nil_append]; kcj_all))))
local macro_rules | `(tactic| walk_at "Mine.enterC") => `(tactic| (refine' code_defC ?k1 ?k2 ?k3 ?k4 ?k5 ?kA ?kF ?kK ?k6 ?k7 ?k8 ?k9 ?kB ?kD ?_ ?c2 ?c3 ?c4; (case kA => exact rfl); (case kF => exact rfl); (case kK => assumption); (case k1 => k_asm); (case k2 => k_asm); (case k3 => k_asm); (case k4 => k_asm); (case k5 => k_asm); (case k6 => k_is); (case k7 => k_is); (case k8 => ktr_room); (case k9 => exact BindsTo.of_eq rfl); (case kB => exact rfl); (case kD => decide +kernel); (case c2 => exact rfl); (case c3 => exact rfl); (case c4 => exact rfl); k_whole; intro g' L' h' tk' cells' FG' F' N' Y' B' X' T' l1; (try k_lt l1); k_cells Y'; (try simp only [List.cons_append, List.nil_append] at N'); (try dsimp only); (try k_fold)))
local macro_rules | `(tactic| walk_at "CompEnd") => `(tactic| refine stop_here ?_)
local macro_rules | `(tactic| walk_at "CompSrcT") => `(tactic| refine stop_here ?_)
set_option maxHeartbeats 2000000 in
theorem c_law_next {vs : List Value} {ms : List Int} {M : Addr} {nn : Nat} (hi : IntsAre vs ms) (hl : ms.length ≤ 64) (n : Int) (tn : Tok) :
    Ctr w mean mg mb 9 137 [.ref M, .int n tn] (fun news => (M, PySem.W.listOf vs.toArray nn) ∈ news) (fun tl r => tl = [] ∧ ∃ t, r = .int (laterL ms n) t) := by
  unfold Ctr
  intro dp un gd cn cs a ccd cl outer A₀ base h₀ L m news s Q E B F X N T hk hdp hun hpre hret
  w_top off
  k_with_none
  refine wpAny_call ?_
  k_dflt (walk_at "Mine.enterC")
  have hll := hi.length
  k_with "exec Assign cons ListComp" => (k_dflt (refine LCt.Assign_ListComp_T (F₀ := by k_asm) (by rfl) (by with_unfolding_all rfl) (by with_unfolding_all rfl) (by decide) (by rfl) (by decide) (by rfl) (by rfl) (by rfl) ?_); k_dflt lct_toSrc)
  k_steps
  unfold Stop
  refine LCt.CompSrcT.ledger (by rfl) (by k_asm) (by k_asm) (its := vs.toArray) (k := nn) (.tail _ hpre) (by rw [PySem.sizeLine_eq, List.size_toArray]; omega) ?_
  intro g1
  refine fl_list (fun m => decide (n ≤ m)) hi (fun k' t' I' oI' C' oC' D' m' ys' h' tk' E' hk' hC' hx' F' N' off' ne' => ?_) (fun ys hy hyl => ?_)
  · have offK := off'
    simp only [LCg.Off3, and_true] at off'
    (try k_fold)
    k_steps
    all_goals unfold Stop
    · exact LCg.CompEnd.intro (by k_asm) (by k_asm) _ (fun _ h => h) offK (.inr ⟨_, .tail _ hpre, rfl, _, rfl⟩) ⟨rfl, decide_eq_true (by assumption), _, rfl⟩
    · exact LCg.CompEnd.intro (by k_asm) (by k_asm) _ (fun _ h => h) offK (.inr ⟨_, .tail _ hpre, rfl, _, rfl⟩) ⟨rfl, decide_eq_false (by assumption)⟩
  · intro D h tk F9 N9 off9
    (try dsimp only)
    k_fold
    k_with "compareOp NotEq ref ref" => (k_here; k_dflt (refine ke_ne_ints (xs := ys) (ys := []) (News.isList (n := ys.length) (by k_asm) (by k_mem)) (News.isList (n := 0) (by k_asm) (by k_mem)) hy .nil ?ku ?_; (case ku => ktr_units)))
    k_steps
    all_goals (walk_at "Mine.ret"; refine ⟨rfl, _, congrArg (Value.int · _) ?_⟩)
    · exact ll_none (by assumption)
    · exact ll_some (by assumption)
end
end Mine
end

section
open PySem PySem.W PySem.Calls PyProof.Rows
namespace Mine
/-- what a def's caller is handed, the new objects in no order -/
def RetN (h₀ : Heap) (L : Addr) (m : Str → Option Value) (news : List (Addr × Obj)) (s : Shared) (Q : Value → Shared → Prop) (Out : List (Addr × Obj) → Value → Prop) : Prop :=
  ∀ r tl h' tk', Fr h₀ L h' m → News h₀ L h' (tl ++ news) → Out tl r → Q r { s with heap := h', toks := tk' }
def CtrN (w : World) (mean : ExcName → Option Value) (mg mb : Str → Option Value) (d : Nat) (f : Addr) (vs : List Value) (pre : List (Addr × Obj) → Prop) (Out : List (Addr × Obj) → Value → Prop) : Prop :=
  ∀ (dp un : Nat) (gd : Option (List Code)) (cn : Str) (cs : Scope) (a : Addr) (ccd : Value) (cl : List (Str × Addr)) (outer : List Env) (A₀ : Around) (base h₀ : Heap) (L : Addr) (m : Str → Option Value) (news : List (Addr × Obj)) (s : Shared) (Q E : Value → Shared → Prop),
    Below A₀ base outer h₀ → Fr h₀ L s.heap m → (headT.heap_39 w.params).In h₀ → News h₀ L s.heap news → Top headT.view_39 (looseW headT.view_39 [Str.ofString "Piece"]) mean mg mb h₀ → cs.kind = .function → dp + d < recursionLimit → un + 8 * d < cLine → pre news →
    RetN h₀ L m news s Q Out →
    wpAny (model PySem.Challenge.rw_nz0238_01.row.prog w) (ktrTop dp un gd cn cs L a ccd cl outer) (call (.ref f) vs) Q E s
theorem ctrN_use {w : World} {mean : ExcName → Option Value} {mg mb : Str → Option Value} {d : Nat} {f : Addr} {vs : List Value} {pre : List (Addr × Obj) → Prop} {Out : List (Addr × Obj) → Value → Prop} {dp un : Nat} {gd : Option (List Code)} {cn : Str} {cs : Scope} {a : Addr} {ccd : Value} {cl : List (Str × Addr)} {outer : List Env} {A₀ : Around} {base h₀ : Heap} {L : Addr} {m : Str → Option Value} {news : List (Addr × Obj)} {s : Shared} {Q E : Value → Shared → Prop}
    (C : CtrN w mean mg mb d f vs pre Out) (B : Below A₀ base outer h₀) (F : Fr h₀ L s.heap m) (X : (headT.heap_39 w.params).In h₀) (N : News h₀ L s.heap news) (T : Top headT.view_39 (looseW headT.view_39 [Str.ofString "Piece"]) mean mg mb h₀) (hk : cs.kind = .function) (hdp : dp + d < recursionLimit) (hun : un + 8 * d < cLine) (hp : pre news)
    (ret : ∀ r tl h' tk', Fr h₀ L h' m → News h₀ L h' (tl ++ news) → Out tl r → Q r { s with heap := h', toks := tk' }) :
    wpAny (model PySem.Challenge.rw_nz0238_01.row.prog w) (ktrTop dp un gd cn cs L a ccd cl outer) (call (.ref f) vs) Q E s := C _ _ _ _ _ _ _ _ _ _ _ _ _ _ _ _ _ _ B F X N T hk hdp hun hp ret
theorem isM_no1 {ks : List Int} {k : Int} (h : ks.getD k.toNat 0 ≠ 255) : isM ks k = false := by
  unfold isM; rw [decide_eq_false h]; rfl
theorem isM_no2 {ks : List Int} {k : Int} (h : ([0, 255].any fun x => x == ks.getD (k + 1).toNat 0) = true) : isM ks k = false := by
  simp only [List.any_cons, List.any_nil, Bool.or_false, Bool.or_eq_true, beq_iff_eq] at h
  unfold isM
  rcases h with h | h <;> rw [← h] <;> simp
theorem isM_yes {ks : List Int} {k : Int} (hy : ks.getD k.toNat 0 = 255) (h : ([0, 255].any fun x => x == ks.getD (k + 1).toNat 0) = false) : isM ks k = true := by
  simp only [List.any_cons, List.any_nil, Bool.or_false, Bool.or_eq_false_iff, beq_eq_false_iff_ne] at h
  unfold isM
  simp only [Bool.and_eq_true, decide_eq_true_eq, Bool.not_eq_true', decide_eq_false_iff_not]
  exact ⟨⟨hy, fun q => h.1 q.symm⟩, fun q => h.2 q.symm⟩
def marksL (ks : List Int) : List Int := (rangeKs 0 ((ks.length : Int) - 1).toNat).filter (isM ks)
section
variable {w : World} {mean : ExcName → Option Value} {mg mb : Str → Option Value}
local macro_rules | `(tactic| walk_at "Mine.enterC") => `(tactic| (refine' code_defC ?k1 ?k2 ?k3 ?k4 ?k5 ?kA ?kF ?kK ?k6 ?k7 ?k8 ?k9 ?kB ?kD ?_ ?c2 ?c3 ?c4; (case kA => exact rfl); (case kF => exact rfl); (case kK => assumption); (case k1 => k_asm); (case k2 => k_asm); (case k3 => k_asm); (case k4 => k_asm); (case k5 => k_asm); (case k6 => k_is); (case k7 => k_is); (case k8 => ktr_room); (case k9 => exact BindsTo.of_eq rfl); (case kB => exact rfl); (case kD => decide +kernel); (case c2 => exact rfl); (case c3 => exact rfl); (case c4 => exact rfl); k_whole; intro g' L' h' tk' cells' FG' F' N' Y' B' X' T' l1; (try k_lt l1); k_cells Y'; (try simp only [List.cons_append, List.nil_append] at N'); (try dsimp only); (try k_fold)))
local macro_rules | `(tactic| walk_at "CompEnd") => `(tactic| refine stop_here ?_)
local macro_rules | `(tactic| walk_at "CompSrcT") => `(tactic| refine stop_here ?_)
set_option maxHeartbeats 2000000 in
theorem c_law_marks {b : Array UInt8} {ks : List Int} (hb : KBw.bInts b = ks) (hl : ks.length ≤ 64) (tb : Tok) :
    CtrN w mean mg mb 1 118 [.bytes b tb] (fun _ => True) (fun tl r => ∃ M ys, tl = [(M, PySem.W.listOf (List.toArray ys) ys.length)] ∧ r = .ref M ∧ IntsAre ys (marksL ks)) := by
  unfold CtrN
  intro dp un gd cn cs a ccd cl outer A₀ base h₀ L m news s Q E B F X N T hk hdp hun hpre hret
  w_top off
  k_with_none
  refine wpAny_call ?_
  k_dflt (walk_at "Mine.enterC")
  k_with "eval ListComp" => (k_dflt (refine LCt.ListComp_T (F₀ := by k_asm) (by with_unfolding_all rfl) (by decide) (by rfl) (by decide) (by rfl) ?_); k_dflt lct_toSrc)
  k_steps
  unfold Stop
  refine LCt.CompSrcT.range (by rfl) (by k_asm) (by k_asm) (by assumption) (small_one (by omega) (by omega) (by omega) (by omega)) (rangeSize_nat _ _) (by rw [PySem.sizeLine_eq]; omega) ?_
  intro g1
  rw [show ((ks.length : Int) - 1 - 0).toNat = ((ks.length : Int) - 1).toNat by rw [Int.sub_zero]]
  refine fl_range (isM ks) (fun k' t' I' oI' C' oC' D' m' ys' h' tk' E' hlo' hhi' hC' hx' F' N' off' ne' => ?_) (fun ys hy hyl => ?_)
  · have offK := off'
    have hhi2 : k' + 1 < (ks.length : Int) := by omega
    simp only [LCg.Off3] at off'
    (try k_fold)
    k_steps
    all_goals unfold Stop
    · exact LCg.CompEnd.intro (by k_asm) (by k_asm) _ (fun _ h => .tail _ h) offK trivial ⟨rfl, isM_no2 (by assumption)⟩
    · exact LCg.CompEnd.intro (by k_asm) (by k_asm) _ (fun _ h => .tail _ h) offK trivial ⟨rfl, isM_yes (by assumption) (by assumption), _, rfl⟩
    · exact LCg.CompEnd.intro (by k_asm) (by k_asm) _ (fun _ h => h) offK trivial ⟨rfl, isM_no1 (by assumption)⟩
  · intro D h tk F9 N9 off9
    (try dsimp only)
    (try k_fold)
    k_steps
    refine hret _ [(D, PySem.W.listOf (List.toArray ys) ys.length)] _ _ (by k_asm) ?_ ⟨D, ys, rfl, rfl, hy⟩
    rename News h₀ L _ _ => nE
    intro p hp
    refine nE p ?_
    rcases List.mem_cons.mp hp with rfl | hp
    · exact .head _
    · exact .tail _ (.tail _ hp)
end
end Mine
end

section
open PySem PySem.W PySem.Calls PyProof.Rows
namespace Mine
theorem rangeKs_cons (a : Int) (k : Nat) : rangeKs a (k + 1) = a :: rangeKs (a + 1) k := by
  unfold rangeKs
  rw [List.range_succ_eq_map, List.map_cons, List.map_map]
  congr 1
  · omega
  · refine List.map_congr_left fun i _ => ?_
    simp only [Function.comp]
    omega
theorem head_next (ks : List Int) (n : Int) : ∀ (k : Nat) (a : Int), (ks.length : Int) ≤ a + k + 1 → (k = 0 ∨ a + k + 1 = (ks.length : Int)) → (((rangeKs a k).filter (isM ks)).filter fun m => decide (n ≤ m)).head? = nextM ks (if a ≤ n then n else a)
  | 0, a, h, _ => by
    rw [nextM, if_neg (by split <;> omega)]
    rfl
  | k + 1, a, h, h2 => by
    have ih := head_next ks n k (a + 1) (by omega) (by omega)
    rw [rangeKs_cons]
    by_cases hn : n ≤ a
    · have e : (if a ≤ n then n else a) = a := by split <;> omega
      rw [show (if a + 1 ≤ n then n else a + 1) = a + 1 by split <;> omega] at ih
      rw [e, nextM, if_pos (by omega)]
      by_cases hm : isM ks a = true
      · rw [if_pos hm, List.filter_cons_of_pos hm, List.filter_cons_of_pos (p := fun m => decide (n ≤ m)) (decide_eq_true hn)]; rfl
      · rw [if_neg hm, List.filter_cons_of_neg hm]
        exact ih
    · have e : (if a ≤ n then n else a) = n := by split <;> omega
      rw [show (if a + 1 ≤ n then n else a + 1) = n by split <;> omega] at ih
      rw [e, ← ih]
      by_cases hm : isM ks a = true
      · rw [List.filter_cons_of_pos hm, List.filter_cons_of_neg (p := fun m => decide (n ≤ m)) (by simpa using hn)]
      · rw [List.filter_cons_of_neg hm]
theorem laterL_eq {ks : List Int} {n : Int} (hn : 0 ≤ n) : laterL (marksL ks) n = (nextM ks n).getD (-1) := by
  unfold laterL marksL
  rw [head_next ks n _ 0 (by omega) (by omega), if_pos hn]
theorem later_cases {ks : List Int} {n : Int} (hn : 0 ≤ n) : (nextM ks n = none ∧ laterL (marksL ks) n = -1) ∨ ∃ i, nextM ks n = some i ∧ laterL (marksL ks) n = i := by
  rw [laterL_eq hn]
  cases nextM ks n with
  | none => exact .inl ⟨rfl, rfl⟩
  | some i => exact .inr ⟨i, rfl, rfl⟩
end Mine
end

section
open PySem PySem.W PySem.Calls PyProof.Rows
namespace Mine
theorem later_val {ks : List Int} {n : Int} {r : Value} {t : Tok} (hn : 0 ≤ n) (h : r = .int (laterL (marksL ks) n) t) : (nextM ks n = none ∧ r = .int (-1) t) ∨ ∃ i, nextM ks n = some i ∧ r = .int i t := by
  rcases later_cases hn with ⟨h1, h2⟩ | ⟨i, h1, h2⟩
  · exact .inl ⟨h1, by rw [h, h2]⟩
  · exact .inr ⟨i, h1, by rw [h, h2]⟩
def ldQ (ks : List Int) (n v : Int) : Prop := dataEnd ks n = if v < 0 then (ks.length : Int) else if isEnd ks v = true then v else dataEnd ks (v + 2)
def ldM (ks : List Int) (v : Int) : Nat := if v < 0 then 0 else ((ks.length : Int) - v).toNat + 1
theorem dataEnd_eq' (ks : List Int) (n : Int) : dataEnd ks n = match nextM ks n with
  | none => (ks.length : Int)
  | some i => if isEnd ks i = true then i else dataEnd ks (i + 2) := by
  rw [dataEnd]; split <;> (rename_i h; rw [h])
theorem ldQ_none {ks : List Int} {n : Int} (h : nextM ks n = none) : ldQ ks n (-1) := by
  unfold ldQ; rw [dataEnd_eq', h]; rfl
theorem ldQ_some {ks : List Int} {n i : Int} (h : nextM ks n = some i) (hn : 0 ≤ n) : ldQ ks n i := by
  have := nextM_some h
  unfold ldQ; rw [dataEnd_eq', h, if_neg (by omega)]
theorem ldQ_step {ks : List Int} {n v : Int} (h : ldQ ks n v) (hv : 0 ≤ v) (he : isEnd ks v = false) : dataEnd ks n = dataEnd ks (v + 2) := by
  unfold ldQ at h; rw [h, if_neg (by omega), he, if_neg Bool.false_ne_true]
theorem ldQ_none2 {ks : List Int} {n v : Int} (hq : ldQ ks n v) (hv : 0 ≤ v) (he : isEnd ks v = false) (h : nextM ks (v + 2) = none) : ldQ ks n (-1) := by
  have := ldQ_none h
  unfold ldQ at this ⊢
  rw [ldQ_step hq hv he]; exact this
theorem ldQ_some2 {ks : List Int} {n v i : Int} (hq : ldQ ks n v) (hv : 0 ≤ v) (he : isEnd ks v = false) (h : nextM ks (v + 2) = some i) : ldQ ks n i := by
  have := ldQ_some h (by omega)
  unfold ldQ at this ⊢
  rw [ldQ_step hq hv he]; exact this
theorem ldQ_end {ks : List Int} {n v : Int} (hq : ldQ ks n v) (hv : 0 ≤ v) (he : isEnd ks v = true) : v = dataEnd ks n := by
  unfold ldQ at hq; rw [hq, if_neg (by omega), if_pos he]
theorem ldQ_out {ks : List Int} {n v : Int} (hq : ldQ ks n v) (hv : v < 0) : (ks.length : Int) = dataEnd ks n := by
  unfold ldQ at hq; rw [hq, if_pos hv]
theorem ld_st0 {ks : List Int} {n i : Int} (h : nextM ks n = some i) (hn : 0 ≤ n) : (-1 : Int) ≤ i ∧ (0 ≤ i → i + 1 < (ks.length : Int)) ∧ ldQ ks n i := by
  have := nextM_some h
  exact ⟨by omega, fun _ => this.2.1, ldQ_some h hn⟩
theorem ld_stN {ks : List Int} {n v : Int} (hq : ldQ ks n v) (hv : 0 ≤ v) (he : isEnd ks v = false) (h : nextM ks (v + 2) = none) : (-1 : Int) ≤ -1 ∧ ((0 : Int) ≤ -1 → -1 + 1 < (ks.length : Int)) ∧ ldQ ks n (-1) :=
  ⟨by omega, fun q => by omega, ldQ_none2 hq hv he h⟩
theorem ld_stS {ks : List Int} {n v i : Int} (hq : ldQ ks n v) (hv : 0 ≤ v) (he : isEnd ks v = false) (h : nextM ks (v + 2) = some i) : (-1 : Int) ≤ i ∧ (0 ≤ i → i + 1 < (ks.length : Int)) ∧ ldQ ks n i := by
  have := nextM_some h
  exact ⟨by omega, fun _ => this.2.1, ldQ_some2 hq hv he h⟩
theorem ld_meN {ks : List Int} {v : Int} (hv : 0 ≤ v) : ldM ks (-1) < ldM ks v := by
  unfold ldM; rw [if_pos (by omega), if_neg (by omega)]; omega
theorem ld_meS {ks : List Int} {v i : Int} (hv : 0 ≤ v) (h : nextM ks (v + 2) = some i) : ldM ks i < ldM ks v := by
  have := nextM_some h
  unfold ldM; rw [if_neg (by omega), if_neg (by omega)]; omega
section
variable {w : World} {mean : ExcName → Option Value} {mg mb : Str → Option Value}
local macro_rules | `(tactic| walk_at "Mine.pad") => `(tactic| skip)
local macro_rules | `(tactic| walk_at "Mine.ret") => `(tactic| (refine' ret_end (tl := []) ?k1 ?k2 ?k3 ?k4 no_lt ?_; (case k1 => assumption); (case k2 => k_asm); (case k3 => assumption); (case k4 => (simp only [List.nil_append]; kcj_all))))
local macro_rules | `(tactic| walk_at "call ref") => `(tactic| (k_here; k_dflt (refine' ctr_use (c_law_is_end ?kb ?kl _ _ _ ?kn ?km) ?k1 ?k2 ?k3 ?k4 ?k5 ?kK ?kd ?ku ?kp ?_); (case kb => assumption); (case kl => assumption); (case kn => first | assumption | omega); (case km => first | assumption | omega); (case k1 => k_asm); (case k2 => k_asm); (case k3 => k_asm); (case k4 => k_asm); (case k5 => k_asm); (case kK => first | exact rfl | assumption); (case kd => ktr_room); (case ku => ktr_units); (case kp => trivial); intro r9 tl9 h9 tk9 F9 N9 l9 o9; obtain ⟨o1, o2⟩ := o9; subst o1; subst o2; (simp only [List.nil_append] at N9); clear l9; (try dsimp only); (try k_fold)))
local macro_rules | `(tactic| walk_at "call ref") => `(tactic| (k_here; k_dflt (refine' ctr_use (c_law_next ?ki ?kl _ _) ?k1 ?k2 ?k3 ?k4 ?k5 ?kK ?kd ?ku ?kp ?_); (case ki => assumption); (case kl => assumption); (case k1 => k_asm); (case k2 => k_asm); (case k3 => k_asm); (case k4 => k_asm); (case k5 => k_asm); (case kK => first | exact rfl | assumption); (case kd => ktr_room); (case ku => ktr_units); (case kp => first | assumption | k_mem); intro r9 tl9 h9 tk9 F9 N9 l9 o9; obtain ⟨o1, t9, o2⟩ := o9; subst o1; (simp only [List.nil_append] at N9); clear l9; (rcases later_val (by first | assumption | omega) o2 with ⟨o3, o4⟩ | ⟨x9, o3, o4⟩) <;> (clear o2; subst o4; (try have b9 := nextM_some o3); (try dsimp only); (try k_fold))))
set_option maxHeartbeats 2000000 in
theorem c_law_data_end {b : Array UInt8} {ks : List Int} (hb : KBw.bInts b = ks) (hl : ks.length ≤ 64) (tb : Tok) {vs : List Value} {M : Addr} {nn : Nat} (hi : IntsAre vs (marksL ks)) (hml : (marksL ks).length ≤ 64) (n : Int) (tn : Tok) (hn : 0 ≤ n) (hm : n ≤ (ks.length : Int)) :
    Ctr w mean mg mb 10 144 [.bytes b tb, .ref M, .int n tn] (fun news => (M, PySem.W.listOf vs.toArray nn) ∈ news) (fun tl r => tl = [] ∧ ∃ t, r = .int (dataEnd ks n) t ∧ n ≤ dataEnd ks n ∧ dataEnd ks n ≤ (ks.length : Int)) := by
  unfold Ctr
  intro dp un gd cn cs a ccd cl outer A₀ base h₀ L m news s Q E B F X N T hk hdp hun hpre hret
  w_top off
  k_with_none
  refine wpAny_call ?_
  k_dflt ktr_enter
  k_with "exec While BoolOp cons nil" => k_while (fun _ v => (-1 : Int) ≤ v ∧ (0 ≤ v → v + 1 < (ks.length : Int)) ∧ ldQ ks n v) (fun _ v => ldM ks v) "mark"
  k_with "state" => first | exact ld_st0 (by assumption) (by assumption) | exact ld_stN (by assumption) (by assumption) (by assumption) (by assumption) | exact ld_stS (by assumption) (by assumption) (by assumption) (by assumption)
  k_with "measure" => first | exact ld_meN (by assumption) | exact ld_meS (by assumption) (by assumption)
  k_steps
  all_goals (walk_at "Mine.ret"; refine ⟨rfl, _, congrArg (Value.int · _) ?_, dataEnd_le hm⟩)
  · exact ldQ_out (ldQ_none (by assumption)) (by omega)
  · exact ldQ_end (by assumption) (by assumption) (by assumption)
  · exact ldQ_out (by assumption) (by omega)
end
end Mine
end

section
open PySem PySem.W PySem.Calls PyProof.Rows
namespace Mine
def rowObj (b : Array UInt8) (ks : List Int) (r : Int × Int × Int) (t1 t2 t3 : Tok) : Obj :=
  { cls := .type "tuple", data := .seq #[.int (ks.getD (r.1 + 1).toNat 0) t1, .bytes (KBy.picked b (some (r.1 + 4)) (some r.2.1)) t2, .bytes (KBy.picked b (some r.2.1) (some r.2.2)) t3] }
def RowAt (b : Array UInt8) (ks : List Int) (led : List (Addr × Obj)) (v : Value) (r : Int × Int × Int) : Prop :=
  ∃ (x : Addr) (t1 t2 t3 : Tok), v = .ref x ∧ (x, rowObj b ks r t1 t2 t3) ∈ led
theorem RowAt.mono {b : Array UInt8} {ks : List Int} {led led' : List (Addr × Obj)} (h : ∀ p ∈ led, p ∈ led') (v : Value) (r : Int × Int × Int) (x : RowAt b ks led v r) : RowAt b ks led' v r := by
  obtain ⟨x, t1, t2, t3, e, h1⟩ := x
  exact ⟨x, t1, t2, t3, e, h _ h1⟩
abbrev LpS := (Int × Tok) × List Value × Nat × List (Addr × Obj) × List (Int × Int × Int)
def lpLed (R M : Addr) (oM : Obj) (news : List (Addr × Obj)) (c : LpS) : List (Addr × Obj) := (M, oM) :: (R, PySem.W.listOf c.2.1.toArray c.2.2.1) :: (c.2.2.2.1 ++ news)
def lpPs (c : LpS) : List (Str × Value) := [(Str.ofString "mark", .int c.1.1 c.1.2)]
def lpF (b : Array UInt8) (ks : List Int) (R : Addr) (c : LpS) : Prop := OwnOff c.2.2.2.1 [R] ∧ (∀ q ∈ c.2.2.2.1, @LT.lt Nat _ R q.1) ∧ Each (RowAt b ks c.2.2.2.1) c.2.1 c.2.2.2.2
def lpQ (ks : List Int) (v : Int) (rs : List (Int × Int × Int)) : Prop := pieces ks 0 = if v < 0 then rs else rs ++ piecesM ks v
def lpP (ks : List Int) (c : LpS) : Prop := (-1 : Int) ≤ c.1.1 ∧ (0 ≤ c.1.1 → c.1.1 + 1 < (ks.length : Int)) ∧ (0 ≤ c.1.1 → (c.2.1.length : Int) ≤ c.1.1) ∧ lpQ ks c.1.1 c.2.2.2.2
def lpM (ks : List Int) (c : LpS) : Nat := ldM ks c.1.1
abbrev lpSt : List Str := [Str.ofString "behind", Str.ofString "place"]
def lpNx (ks : List Int) (d v : Int) : Prop := (v = -1 ∧ nextM ks d = none) ∨ nextM ks d = some v
theorem lpNx_pieces {ks : List Int} {d v : Int} {rs : List (Int × Int × Int)} (h : lpNx ks d v) (hd : 0 ≤ d) : rs ++ pieces ks d = if v < 0 then rs else rs ++ piecesM ks v := by
  rcases h with ⟨rfl, h⟩ | h
  · rw [if_pos (by omega), pieces_none h, List.append_nil]
  · have := nextM_some h
    rw [if_neg (by omega), pieces_some h]
theorem lpNx_at {ks : List Int} {d v : Int} (h : lpNx ks d v) (hd : 0 ≤ d) : (-1 : Int) ≤ v ∧ (0 ≤ v → v + 1 < (ks.length : Int)) ∧ (0 ≤ v → d ≤ v) := by
  rcases h with ⟨rfl, h⟩ | h
  · exact ⟨by omega, by omega, by omega⟩
  · have := nextM_some h
    exact ⟨by omega, by omega, by omega⟩
theorem lpNx_ldM {ks : List Int} {i d v : Int} (h : lpNx ks d v) (hi : 0 ≤ i) (hd : i + 2 ≤ d) : ldM ks v < ldM ks i := by
  unfold ldM
  rcases h with ⟨rfl, h⟩ | h
  · rw [if_pos (by omega), if_neg (by omega)]; omega
  · have := nextM_some h
    rw [if_neg (by omega), if_neg (by omega)]; omega
section
variable {prog : Program} {w : World} {A : Around} {E : Value → Shared → Prop} {Q : Flow → Shared → Prop} {s : Shared} {env : Env} {h₀ : Heap} {L : Addr}
variable {b : Array UInt8} {ks : List Int} {R M : Addr} {oM : Obj} {news news' : List (Addr × Obj)} {m₀ m' : Str → Option Value} {h' : Heap} {tk : Nat} {vs : List Value} {nn : Nat} {tl : List (Addr × Obj)} {rs : List (Int × Int × Int)} {i v : Int} {t t' : Tok}
theorem lp_while {test : Expr} {body : List Stmt} {pos : Pos} {n : Nat}
    {X : Addr × Obj} (F : Fr h₀ L s.heap m₀) (N' : News h₀ L s.heap (X :: (R, PySem.W.listOf #[] n) :: (M, oM) :: news)) (hm : m₀ (Str.ofString "mark") = some (.int v t)) (hi : lpNx ks 0 v)
    (turn : ∀ (c : LpS) (u : Str → Option Value) h tk, lpF b ks R c → lpP ks c → Fr h₀ L h (kstB (fun z => if lpSt.contains z then u z else m₀ z) (lpPs c)) → News h₀ L h (lpLed R M oM news c) →
      wpAny (model prog w) A (isTrue test env (eval test env)) (fun bb s₂ =>
        if bb = true then wpAny (model prog w) A (execs body env) (KswPost h₀ L s (lpLed R M oM news) lpPs (lpF b ks R) lpSt m₀ (lpP ks) (lpM ks) Q c) E s₂ else Q .next s₂) E { s with heap := h, toks := tk })
    (hE : PassesOwn (model prog w) A env E := by passes_own) :
    wpAny (model prog w) A (exec (.While test body [] pos) env) Q E s := by
  have ha := lpNx_at hi (Int.le_refl 0)
  have N : News h₀ L s.heap ((M, oM) :: (R, PySem.W.listOf #[] n) :: news) := by
    intro p hp
    rcases List.mem_cons.mp hp with rfl | hp
    · exact N' _ (.tail _ (.tail _ (.head _)))
    rcases List.mem_cons.mp hp with rfl | hp
    · exact N' _ (.tail _ (.head _))
    · exact N' _ (.tail _ (.tail _ (.tail _ hp)))
  refine ksw_while (lpLed R M oM news) lpPs (lpF b ks R) lpSt (lpP ks) (lpM ks) ((v, t), [], n, [], []) F N ⟨fun _ h => (nomatch h), fun _ h => (nomatch h), trivial⟩
    (fun p hp => by rw [List.mem_singleton.mp hp]; exact hm)
    ⟨ha.1, ha.2.1, fun q => by simpa using q, ?_⟩ turn hE
  have e := lpNx_pieces (rs := []) hi (Int.le_refl 0)
  rw [List.nil_append] at e
  exact e
theorem lp_same {d : Int} (N : News h₀ L h' news') (hN : ∀ p ∈ lpLed R M oM news ((v, t'), vs, nn, tl, rs), p ∈ news') (F : Fr h₀ L h' m')
    (hf : lpF b ks R ((i, t), vs, nn, tl, rs)) (hp : lpP ks ((i, t), vs, nn, tl, rs)) (h0 : 0 ≤ i)
    (hk : ∀ p ∈ [(Str.ofString "mark", Value.int v t')], m' p.1 = some p.2) (hr : ∀ z, (∀ p ∈ [(Str.ofString "mark", Value.int v t')], z ≠ p.1) → lpSt.contains z = false → m' z = m₀ z)
    (e : piecesM ks i = pieces ks d) (hn : lpNx ks d v) (hd : i + 2 ≤ d) :
    KswEnd h₀ L s (lpLed R M oM news) lpPs (lpF b ks R) lpSt m₀ (lpP ks) (lpM ks) ((i, t), vs, nn, tl, rs) { s with heap := h', toks := tk } := by
  have ha := lpNx_at hn (by omega)
  obtain ⟨p1, p2, p3, p4⟩ := hp
  dsimp only at p1 p2 p3 p4
  refine ksw_end ((v, t'), vs, nn, tl, rs) F N hN hf hk hr ⟨ha.1, ha.2.1, fun q => ?_, ?_⟩ (lpNx_ldM hn h0 hd)
  · have := p3 h0; have := ha.2.2 q; dsimp only at q ⊢; omega
  · show pieces ks 0 = _
    rw [← lpNx_pieces hn (by omega), ← e]
    rw [lpQ, if_neg (by omega)] at p4
    exact p4
theorem lp_new {x : Addr} {e d : Int} {t1 t2 t3 : Tok} (N : News h₀ L h' news') (hN : ∀ p ∈ (M, oM) :: (R, PySem.W.listOf (vs.toArray.push (.ref x)) (nn + 1)) :: (x, rowObj b ks (i, e, d) t1 t2 t3) :: (tl ++ news), p ∈ news') (F : Fr h₀ L h' m')
    (hf : lpF b ks R ((i, t), vs, nn, tl, rs)) (hp : lpP ks ((i, t), vs, nn, tl, rs)) (h0 : 0 ≤ i) (hx : @LT.lt Nat _ R x)
    (hk : ∀ p ∈ [(Str.ofString "mark", Value.int v t')], m' p.1 = some p.2) (hr : ∀ z, (∀ p ∈ [(Str.ofString "mark", Value.int v t')], z ≠ p.1) → lpSt.contains z = false → m' z = m₀ z)
    (he : piecesM ks i = (i, e, d) :: pieces ks d) (hn : lpNx ks d v) (hd : i + 2 ≤ d) :
    KswEnd h₀ L s (lpLed R M oM news) lpPs (lpF b ks R) lpSt m₀ (lpP ks) (lpM ks) ((i, t), vs, nn, tl, rs) { s with heap := h', toks := tk } := by
  have ha := lpNx_at hn (by omega)
  obtain ⟨p1, p2, p3, p4⟩ := hp
  dsimp only at p1 p2 p3 p4
  obtain ⟨f1, f2, f3⟩ := hf
  dsimp only at f1 f2 f3
  have lt : ∀ q ∈ (x, rowObj b ks (i, e, d) t1 t2 t3) :: tl, @LT.lt Nat _ R q.1 := by
    intro q hq
    rcases List.mem_cons.mp hq with rfl | hq
    · exact hx
    · exact f2 q hq
  refine ksw_end ((v, t'), vs ++ [.ref x], nn + 1, (x, rowObj b ks (i, e, d) t1 t2 t3) :: tl, rs ++ [(i, e, d)]) F N (fun p hp => ?_) ⟨fun q hq a ha => ?_, lt, ?_⟩ hk hr ⟨ha.1, ha.2.1, fun q => ?_, ?_⟩ (lpNx_ldM hn h0 hd)
  · unfold lpLed at hp
    dsimp only at hp
    rw [← List.push_toArray] at hp
    exact hN p hp
  · rw [List.mem_singleton.mp ha]
    exact (Nat.ne_of_lt (lt q hq)).symm
  · exact Each.snoc (f3.mono (RowAt.mono fun p hp => .tail _ hp)) ⟨x, t1, t2, t3, rfl, .head _⟩
  · have := p3 h0; have := ha.2.2 q; dsimp only at q ⊢; rw [List.length_append, List.length_singleton]; omega
  · show pieces ks 0 = _
    rw [← lpNx_pieces hn (by omega), List.append_assoc, List.singleton_append, ← he]
    rw [lpQ, if_neg (by omega)] at p4
    exact p4
end
def LpOut (b : Array UInt8) (ks : List Int) (tl : List (Addr × Obj)) (r : Value) : Prop :=
  ∃ R vs nn tl', r = .ref R ∧ tl = (R, PySem.W.listOf (List.toArray vs) nn) :: tl' ∧ (∀ q ∈ tl', @LT.lt Nat _ R q.1) ∧ Each (RowAt b ks tl') vs (pieces ks 0)
theorem lp_ret {b : Array UInt8} {ks : List Int} {h₀ : Heap} {L : Addr} {m : Str → Option Value} {news news' : List (Addr × Obj)} {s : Shared} {Q : Value → Shared → Prop} {R : Addr} {vs : List Value} {nn : Nat} {tl : List (Addr × Obj)} {rs : List (Int × Int × Int)} {h' : Heap} {tk' : Nat}
    (hret : RetT h₀ L m news s Q (LpOut b ks)) (F : Fr h₀ L h' m) (N : News h₀ L h' news') (hs : ∀ p ∈ (R, PySem.W.listOf vs.toArray nn) :: (tl ++ news), p ∈ news') (hl : ∀ p ∈ news, p.1 < R) (hlt : ∀ q ∈ tl, @LT.lt Nat _ R q.1) (h4 : Each (RowAt b ks tl) vs rs) (e : pieces ks 0 = rs) :
    Q (.ref R) { s with heap := h', toks := tk' } := by
  refine hret _ ((R, PySem.W.listOf vs.toArray nn) :: tl) h' tk' F (fun p hp => N p (hs p hp)) (fun p hp q hq => ?_) ⟨R, vs, nn, tl, rfl, rfl, hlt, by rw [e]; exact h4⟩
  rcases List.mem_cons.mp hq with rfl | hq
  · exact hl p hp
  · exact Nat.lt_trans (hl p hp) (hlt q hq)
end Mine
end

section
open PySem PySem.W PySem.Calls PyProof.Rows
namespace Mine
theorem pm_skip {ks : List Int} {i : Int} (h : ks.getD (i + 1).toNat 0 ≠ 217) (h2 : hasLen (ks.getD (i + 1).toNat 0) = false ∨ behindS ks i = none) : piecesM ks i = pieces ks (i + 2) := by
  cases e : hasLen (ks.getD (i + 1).toNat 0) with
  | false => exact pm_skip2 h e
  | true =>
    rcases h2 with h2 | h2
    · rw [e] at h2; cases h2
    · exact pm_skip1 h e h2
theorem pm_newA {ks : List Int} {i e : Int} (h : ks.getD (i + 1).toNat 0 ≠ 217) (h2 : hasLen (ks.getD (i + 1).toNat 0) = true ∧ behindS ks i = some e ∧ i + 4 ≤ e ∧ e ≤ (ks.length : Int)) (h4 : ks.getD (i + 1).toNat 0 = 218) : piecesM ks i = (i, e, dataEnd ks e) :: pieces ks (dataEnd ks e) := pm_new1 h h2.1 h2.2.1 h4
theorem pm_newB {ks : List Int} {i e : Int} (h : ks.getD (i + 1).toNat 0 ≠ 217) (h2 : hasLen (ks.getD (i + 1).toNat 0) = true ∧ behindS ks i = some e ∧ i + 4 ≤ e ∧ e ≤ (ks.length : Int)) (h4 : ks.getD (i + 1).toNat 0 ≠ 218) : piecesM ks i = (i, e, e) :: pieces ks e := pm_new2 h h2.1 h2.2.1 h4
theorem lpQ_eoi {ks : List Int} {i : Int} {rs : List (Int × Int × Int)} (h : lpQ ks i rs) (h0 : 0 ≤ i) (h1 : ks.getD (i + 1).toNat 0 = 217) : pieces ks 0 = rs := by
  rw [lpQ, if_neg (by omega), pm_eoi h1, List.append_nil] at h; exact h
theorem lpQ_out {ks : List Int} {i : Int} {rs : List (Int × Int × Int)} (h : lpQ ks i rs) (h0 : i < 0) : pieces ks 0 = rs := by
  rw [lpQ, if_pos h0] at h; exact h
theorem lpNxD {ks : List Int} {d v : Int} (h : (v = -1 ∧ nextM ks d = none) ∨ nextM ks d = some v) : lpNx ks d v := h
theorem lp_sub {X Y Z : Addr × Obj} {news : List (Addr × Obj)} : ∀ p ∈ Y :: ([] ++ news), p ∈ X :: Y :: Z :: news := by
  intro p hp
  rcases List.mem_cons.mp hp with rfl | hp
  · exact .tail _ (.head _)
  · exact .tail _ (.tail _ (.tail _ hp))
theorem lp_sub2 {X Y Z : Addr × Obj} {l : List (Addr × Obj)} : ∀ p ∈ Y :: Z :: X :: l, p ∈ X :: Y :: Z :: l := by
  intro p hp
  rcases List.mem_cons.mp hp with rfl | hp
  · exact .tail _ (.head _)
  rcases List.mem_cons.mp hp with rfl | hp
  · exact .tail _ (.tail _ (.head _))
  rcases List.mem_cons.mp hp with rfl | hp
  · exact .head _
  · exact .tail _ (.tail _ (.tail _ hp))
section
variable {w : World} {mean : ExcName → Option Value} {mg mb : Str → Option Value}
local macro_rules | `(tactic| walk_at "call ref") => `(tactic| (k_here; k_dflt (refine' ctr_use (c_law_data_end ?kb ?kl _ ?ki ?kl2 _ _ ?kn ?km) ?k1 ?k2 ?k3 ?k4 ?k5 ?kK ?kd ?ku ?kp ?_); (case kb => assumption); (case kl => assumption); (case ki => assumption); (case kl2 => assumption); (case kn => first | assumption | omega); (case km => first | assumption | omega); (case k1 => k_asm); (case k2 => k_asm); (case k3 => k_asm); (case k4 => k_asm); (case k5 => k_asm); (case kK => first | exact rfl | assumption); (case kd => ktr_room); (case ku => ktr_units); (case kp => first | assumption | k_mem); intro r9 tl9 h9 tk9 F9 N9 l9 o9; obtain ⟨o1, t9, o2, b9⟩ := o9; subst o1; subst o2; (simp only [List.nil_append] at N9); clear l9; (try dsimp only); (try k_fold)))
local macro_rules | `(tactic| walk_at "call ref") => `(tactic| (k_here; k_dflt (refine' ctr_use (c_law_behind ?kb ?kl _ _ _ ?kn ?km) ?k1 ?k2 ?k3 ?k4 ?k5 ?kK ?kd ?ku ?kp ?_); (case kb => assumption); (case kl => assumption); (case kn => first | assumption | omega); (case km => first | assumption | omega); (case k1 => k_asm); (case k2 => k_asm); (case k3 => k_asm); (case k4 => k_asm); (case k5 => k_asm); (case kK => first | exact rfl | assumption); (case kd => ktr_room); (case ku => ktr_units); (case kp => trivial); intro r9 tl9 h9 tk9 F9 N9 l9 o9; obtain ⟨o1, t9, o2⟩ := o9; subst o1; (simp only [List.nil_append] at N9); clear l9; (rcases behL_cases _ _ with ⟨o3, o4⟩ | ⟨x9, o3, o4⟩) <;> (rw [o3] at o2; subst o2; clear o3; (try dsimp only); (try k_fold))))
local macro_rules | `(tactic| walk_at "call ref") => `(tactic| (k_here; k_dflt (refine' ctr_use (c_law_next ?ki ?kl _ _) ?k1 ?k2 ?k3 ?k4 ?k5 ?kK ?kd ?ku ?kp ?_); (case ki => assumption); (case kl => assumption); (case k1 => k_asm); (case k2 => k_asm); (case k3 => k_asm); (case k4 => k_asm); (case k5 => k_asm); (case kK => first | exact rfl | assumption); (case kd => ktr_room); (case ku => ktr_units); (case kp => first | assumption | k_mem); intro r9 tl9 h9 tk9 F9 N9 l9 o9; obtain ⟨o1, t9, o2⟩ := o9; subst o1; (simp only [List.nil_append] at N9); clear l9; (rcases later_val (by first | assumption | omega) o2 with ⟨o3, o4⟩ | ⟨x9, o3, o4⟩) <;> (clear o2; subst o4; (try have b9 := nextM_some o3); (try dsimp only); (try k_fold))))
local macro_rules | `(tactic| walk_at "call ref") => `(tactic| (k_here; k_dflt (refine' ctrN_use (c_law_marks ?kb ?kl _) ?k1 ?k2 ?k3 ?k4 ?k5 ?kK ?kd ?ku ?kp ?_); (case kb => assumption); (case kl => assumption); (case k1 => k_asm); (case k2 => k_asm); (case k3 => k_asm); (case k4 => k_asm); (case k5 => k_asm); (case kK => first | exact rfl | assumption); (case kd => ktr_room); (case ku => ktr_units); (case kp => trivial); intro r9 tl9 h9 tk9 F9 N9 o9; obtain ⟨M9, ys9, o1, o2, hi9⟩ := o9; subst o1; subst o2; (simp only [List.nil_append, List.cons_append] at N9); (try dsimp only); (try k_fold)))
local macro_rules | `(tactic| walk_at "KswEnd") => `(tactic| refine stop_here ?_)
set_option maxHeartbeats 2000000 in
theorem c_law_pieces {b : Array UInt8} {ks : List Int} (hb : KBw.bInts b = ks) (hl : ks.length ≤ 64) (hml : (marksL ks).length ≤ 64) (tb : Tok) :
    Ctr w mean mg mb 11 151 [.bytes b tb] (fun _ => True) (LpOut b ks) := by
  unfold Ctr
  intro dp un gd cn cs a ccd cl outer A₀ base h₀ L m news s Q E B F X N T hk hdp hun hpre hret
  w_top off
  k_with_none
  refine wpAny_call ?_
  k_dflt ktr_enter
  have kMark := kstMark
  k_with "exec While BoolOp cons nil" => refine stop_here ?_
  k_steps
  · unfold Stop
    k_with_none
    k_steps
    refine' lp_ret (vs := []) (tl := []) (rs := []) ?k1 ?k2 ?k3 ?k4 ?k5 ?k6 ?k7 ?k8
    case k1 => assumption
    case k2 => k_asm
    case k3 => assumption
    case k4 => exact lp_sub
    case k5 => exact kst_ltOf (And.right (by assumption))
    case k6 => exact fun _ h => nomatch h
    case k7 => trivial
    case k8 => exact pieces_none (by assumption)
  · unfold Stop
    rename Fr _ _ _ _ => lF'
    rename News _ _ _ _ => lN'
    refine' lp_while (b := b) lF' lN' ?kk (.inr (by assumption)) ?kt
    case kk => with_unfolding_all rfl
    clear lF' lN'
    rintro ⟨⟨i, t⟩, vs, nn, tl, rs⟩ u h tk hF hP F9 N9
    have I := hP
    have J := hF
    dsimp only [lpLed, lpPs, lpF, lpP, kstB] at hP hF F9 N9
    obtain ⟨hF1, hF2, hF3⟩ := hF
    obtain ⟨hP1, hP2, hP3, hP4⟩ := hP
    (try k_fold)
    k_steps
    all_goals (try unfold Stop)
    · refine' lp_same ?a1 ?a2 ?a3 J I ?a4 ?a5 ?a6 ?a7 (lpNxD ?a8) ?a9
      case a1 => assumption
      case a2 => exact fun _ h => h
      case a3 => assumption
      case a4 => assumption
      case a5 => kst_all
      case a6 => ksw_same
      case a7 => exact pm_skip (by assumption) (by assumption)
      case a8 => exact .inl ⟨rfl, by assumption⟩
      case a9 => omega
    · refine' lp_same ?a1 ?a2 ?a3 J I ?a4 ?a5 ?a6 ?a7 (lpNxD ?a8) ?a9
      case a1 => assumption
      case a2 => exact fun _ h => h
      case a3 => assumption
      case a4 => assumption
      case a5 => kst_all
      case a6 => ksw_same
      case a7 => exact pm_skip (by assumption) (by assumption)
      case a8 => exact .inr (by assumption)
      case a9 => omega
    · refine' lp_new ?a1 ?a2 ?a3 J I ?a4 ?b1 ?a5 ?a6 ?a7 (lpNxD ?a8) ?a9
      case a1 => assumption
      case a2 => exact lp_sub2
      case a3 => assumption
      case b1 => omega
      case a4 => assumption
      case a5 => kst_all
      case a6 => ksw_same
      case a7 => exact pm_newA (by assumption) (by assumption) (by assumption)
      case a8 => exact .inl ⟨rfl, by assumption⟩
      case a9 => omega
    · refine' lp_new ?a1 ?a2 ?a3 J I ?a4 ?b1 ?a5 ?a6 ?a7 (lpNxD ?a8) ?a9
      case a1 => assumption
      case a2 => exact lp_sub2
      case a3 => assumption
      case b1 => omega
      case a4 => assumption
      case a5 => kst_all
      case a6 => ksw_same
      case a7 => exact pm_newA (by assumption) (by assumption) (by assumption)
      case a8 => exact .inr (by assumption)
      case a9 => omega
    · refine' lp_new ?a1 ?a2 ?a3 J I ?a4 ?b1 ?a5 ?a6 ?a7 (lpNxD ?a8) ?a9
      case a1 => assumption
      case a2 => exact lp_sub2
      case a3 => assumption
      case b1 => omega
      case a4 => assumption
      case a5 => kst_all
      case a6 => ksw_same
      case a7 => exact pm_newB (by assumption) (by assumption) (by assumption)
      case a8 => exact .inl ⟨rfl, by assumption⟩
      case a9 => omega
    · refine' lp_new ?a1 ?a2 ?a3 J I ?a4 ?b1 ?a5 ?a6 ?a7 (lpNxD ?a8) ?a9
      case a1 => assumption
      case a2 => exact lp_sub2
      case a3 => assumption
      case b1 => omega
      case a4 => assumption
      case a5 => kst_all
      case a6 => ksw_same
      case a7 => exact pm_newB (by assumption) (by assumption) (by assumption)
      case a8 => exact .inr (by assumption)
      case a9 => omega
    · refine' lp_ret (vs := vs) (tl := tl) ?k1 ?k2 ?k3 ?k4 ?k5 ?k6 ?k7 ?k8
      case k1 => assumption
      case k2 => k_asm
      case k3 => assumption
      case k4 => exact fun _ h => .tail _ h
      case k5 => exact kst_ltOf (And.right (by assumption))
      case k6 => exact hF2
      case k7 => exact hF3
      case k8 => exact lpQ_eoi hP4 (by assumption) (by assumption)
    · refine' lp_ret (vs := vs) (tl := tl) ?k1 ?k2 ?k3 ?k4 ?k5 ?k6 ?k7 ?k8
      case k1 => assumption
      case k2 => k_asm
      case k3 => assumption
      case k4 => exact fun _ h => .tail _ h
      case k5 => exact kst_ltOf (And.right (by assumption))
      case k6 => exact hF2
      case k7 => exact hF3
      case k8 => exact lpQ_out hP4 (by omega)
end
end Mine
end

section
open PySem PySem.W PySem.Calls PyProof.Rows
namespace Mine
theorem Each.get {α β : Type} {R : α → β → Prop} : ∀ {vs : List α} {rs : List β} {i : Nat} {v : α}, Each R vs rs → vs[i]? = some v → ∃ r, rs[i]? = some r ∧ R v r
  | _ :: _, r :: _, 0, _, ⟨h1, _⟩, e => ⟨r, rfl, by cases e; exact h1⟩
  | _ :: _, _ :: _, i + 1, _, ⟨_, h2⟩, e => by
    simp only [List.getElem?_cons_succ] at e ⊢
    exact h2.get e
section
variable {prog : Program} {w : World} {A : Around} {h₀ : Heap} {L : Addr} {m : Str → Option Value} {env : Env} {elt : Expr} {x : Str} {scope : Scope} {cl : List (Str × Addr)} {s : Shared} {S : List (Addr × Obj) → Prop} {Fin : List Value → List (Addr × Obj) → Prop} {base : List (Addr × Obj)}
def TlEl (b : Array UInt8) (ks : List Int) (r : Int × Int × Int) (led : List (Addr × Obj)) (y : Value) (news' : List (Addr × Obj)) : Prop :=
  ∃ (X : Addr) (t1 t2 t3 : Tok), y = .ref X ∧ news' = (X, rowObj b ks r t1 t2 t3) :: led
theorem tl_rest {b : Array UInt8} {ks : List Int} {vs : List Value} {rs : List (Int × Int × Int)} {led : List (Addr × Obj)} (hE : Each (PcAt w b ks led) vs rs) (hL : ∀ p ∈ led, p ∈ base)
    (turn : ∀ (px dx : Addr) (k1 k2 k3 t1 t2 t3 : Tok) (r : Int × Int × Int) I oI C oC D m₂ ys tup h tk (E' : Value → Shared → Prop), LCg.NsObj oC m₂ → m₂ x = some (.ref px) → Fr h₀ L h m →
      News h₀ L h ((I, oI) :: (C, oC) :: (D, LCg.lst ys) :: (px, instObj 46 dx) :: (dx, dictOf (pcDict w b ks r k1 k2 k3 t1 t2 t3) 3) :: (tup ++ base)) → LCg.Off3 I C D (tup ++ base) → ((@Ne Nat I C) ∧ (@Ne Nat I D) ∧ (@Ne Nat C D)) → (∀ l, S (l ++ base)) →
      wpAny (model prog w) A (eval elt (compEnvC scope cl C env)) (LCg.CompEnd h₀ L m { s with heap := h, toks := tk } I oI C oC D (LCg.lst ys) S (TlEl b ks r (tup ++ base))) E' { s with heap := h, toks := tk })
    (hS : ∀ l, S (l ++ base)) (fin : ∀ ys tup, Each (RowAt b ks tup) ys rs → Fin ys (tup ++ base)) : LCg.CompRest prog w A h₀ L m env elt x scope cl s S (fun i v => vs.toArray[i]? = some v) Fin vs.toArray.size 0 [] base := by
  have hlen := hE.length
  have key : ∀ (j i : Nat) (ys : List Value) (tup : List (Addr × Obj)), i + j = vs.length → Each (RowAt b ks tup) ys (rs.take i) → LCg.CompRest prog w A h₀ L m env elt x scope cl s S (fun i v => vs.toArray[i]? = some v) Fin j i ys (tup ++ base) := by
    intro j
    induction j with
    | zero =>
      intro i ys tup hi hy
      have e : rs.take i = rs := List.take_of_length_le (by omega)
      rw [e] at hy
      exact LCg.CompRest.zero (fin ys tup hy)
    | succ j ih =>
      intro i ys tup hi hy
      refine LCg.CompRest.succ ?_
      intro v I oI C oC D m₂ h tk E' hv hC hx F N off ne
      have hv' : vs[i]? = some v := by simpa using hv
      obtain ⟨r, hr, px, dx, k1, k2, k3, t1, t2, t3, rfl, m1, m2⟩ := hE.get hv'
      refine wpAny_mono (turn px dx k1 k2 k3 t1 t2 t3 r I oI C oC D m₂ ys tup h tk E' hC hx F (fun p hp => N p ?_) off ne hS) (fun y s₂ q => ?_) fun _ _ e => e
      · rcases List.mem_cons.mp hp with rfl | hp
        · exact .head _
        rcases List.mem_cons.mp hp with rfl | hp
        · exact .tail _ (.head _)
        rcases List.mem_cons.mp hp with rfl | hp
        · exact .tail _ (.tail _ (.head _))
        rcases List.mem_cons.mp hp with rfl | hp
        · exact .tail _ (.tail _ (.tail _ (List.mem_append.mpr (.inr (hL _ m1)))))
        rcases List.mem_cons.mp hp with rfl | hp
        · exact .tail _ (.tail _ (.tail _ (List.mem_append.mpr (.inr (hL _ m2)))))
        · exact .tail _ (.tail _ (.tail _ hp))
      · refine compEnd_mono q ?_
        rintro nw ⟨X, u1, u2, u3, rfl, rfl⟩
        refine ih (i + 1) _ ((X, rowObj b ks r u1 u2 u3) :: tup) (by omega) ?_
        rw [List.take_add_one, hr]
        exact Each.snoc (hy.mono (RowAt.mono fun p hp => .tail _ hp)) ⟨X, u1, u2, u3, rfl, .head _⟩
  have h := key vs.length 0 [] [] (by omega) (by rw [List.take_zero]; trivial)
  simpa using h
end
end Mine
end

section
open PySem PySem.W PySem.Calls PyProof.Rows
namespace Mine
section
variable {prog : Program} {w : World} {A : Around} {E : Value → Shared → Prop} {s : Shared} {h₀ : Heap} {L : Addr} {news : List (Addr × Obj)}
theorem eqAt_row {b : Array UInt8} {ks : List Int} {r : Int × Int × Int} {X Y : Addr} {t1 t2 t3 u1 u2 u3 : Tok} (N : News h₀ L s.heap news) (mX : (X, rowObj b ks r t1 t2 t3) ∈ news) (mY : (Y, rowObj b ks r u1 u2 u3) ∈ news) (hne : X ≠ Y) (hu : A.units < cLine) :
    SeqAt.EqAt A s (.ref X) (.ref Y) true := by
  refine SeqAt.EqAt.of_refs hne ?_
  have hX : s.heap.IsTuple X #[.int (ks.getD (r.1 + 1).toNat 0) t1, .bytes (KBy.picked b (some (r.1 + 4)) (some r.2.1)) t2, .bytes (KBy.picked b (some r.2.1) (some r.2.2)) t3] := ⟨_, N.get mX, rfl, _, rfl⟩
  have hY : s.heap.IsTuple Y #[.int (ks.getD (r.1 + 1).toNat 0) u1, .bytes (KBy.picked b (some (r.1 + 4)) (some r.2.1)) u2, .bytes (KBy.picked b (some r.2.1) (some r.2.2)) u3] := ⟨_, N.get mY, rfl, _, rfl⟩
  have h := SeqAt.RcAt.tuples (A := A) (e := fun _ => true) hX hY hu (fun j h1 h2 => by
    have hj : j < 3 := h1
    have i1 := SeqAt.EqAt.int_int (A := A.in1) (s := s) (ks.getD (r.1 + 1).toNat 0) t1 (ks.getD (r.1 + 1).toNat 0) u1
    have i2 := eqAt_bytes (A := A.in1) (s := s) (KBy.picked b (some (r.1 + 4)) (some r.2.1)) (KBy.picked b (some (r.1 + 4)) (some r.2.1)) t2 u2
    have i3 := eqAt_bytes (A := A.in1) (s := s) (KBy.picked b (some r.2.1) (some r.2.2)) (KBy.picked b (some r.2.1) (some r.2.2)) t3 u3
    rw [beq_self_eq_true] at i1 i2 i3
    match j, hj with
    | 0, _ => exact i1
    | 1, _ => exact i2
    | 2, _ => exact i3)
  exact h
theorem eq_rows {b : Array UInt8} {ks : List Int} {D R : Addr} {ys ws : List Value} {nD nR : Nat} {tup tr : List (Addr × Obj)} {rs : List (Int × Int × Int)} {Q : Value → Shared → Prop} (N : News h₀ L s.heap news) (mD : (D, PySem.W.listOf ys.toArray nD) ∈ news) (mR : (R, PySem.W.listOf ws.toArray nR) ∈ news)
    (E1 : Each (RowAt b ks tup) ys rs) (E2 : Each (RowAt b ks tr) ws rs) (s1 : ∀ p ∈ tup, p ∈ news) (s2 : ∀ p ∈ tr, p ∈ news) (lt : ∀ p ∈ tup, ∀ q ∈ tr, @LT.lt Nat _ p.1 q.1) (hu : A.units + 1 < cLine) (h : Q (.bool true) s) :
    wpAny (model prog w) A (compareOp .Eq (.ref D) (.ref R)) Q E s := by
  have l1 := E1.length
  have l2 := E2.length
  refine SeqAt.eq_listAt (e := fun _ => true) (News.isList N mD) (News.isList N mR) (by rw [List.size_toArray, List.size_toArray]; omega) (by omega) (fun j h1 h2 => ?_) ?_
  · have g1 : ys[j]? = some ys[j] := List.getElem?_eq_getElem (by simpa using h1)
    have g2 : ws[j]? = some ws[j] := List.getElem?_eq_getElem (by simpa using h2)
    obtain ⟨r, hr, X, t1, t2, t3, e1, mX⟩ := E1.get g1
    obtain ⟨r', hr', Y, u1, u2, u3, e2, mY⟩ := E2.get g2
    rw [hr] at hr'
    cases hr'
    have := eqAt_row (A := A.in1) N (s1 _ mX) (s2 _ mY) (Nat.ne_of_lt (lt _ mX _ mY)) (by rw [units_in1]; exact hu)
    rw [← e1, ← e2] at this
    simpa using this
  · have : ((List.range ys.toArray.size).all fun _ => true) = true := by simp
    rw [this]; exact h
end
theorem tl_end {h₀ : Heap} {L : Addr} {m : Str → Option Value} {s₁ : Shared} {I C D X : Addr} {oI oC : Obj} {ys : List Value} {S : List (Addr × Obj) → Prop} {b : Array UInt8} {ks : List Int} {r : Int × Int × Int} {tup base : List (Addr × Obj)} {p1 p2 : Addr × Obj} {t1 t2 t3 : Tok} {h' : Heap} {tk : Nat}
    (F : Fr h₀ L h' m) (N : News h₀ L h' ((X, rowObj b ks r t1 t2 t3) :: (I, oI) :: (C, oC) :: (D, LCg.lst ys) :: p1 :: p2 :: (tup ++ base))) (off : LCg.Off3 I C D (tup ++ base)) (hS : ∀ l, S (l ++ base)) (i1 : @LT.lt Nat _ I X) (i2 : @LT.lt Nat _ C X) (i3 : @LT.lt Nat _ D X) :
    LCg.CompEnd h₀ L m s₁ I oI C oC D (LCg.lst ys) S (TlEl b ks r (tup ++ base)) (.ref X) { s₁ with heap := h', toks := tk } := by
  refine LCg.CompEnd.intro F N ((X, rowObj b ks r t1 t2 t3) :: (tup ++ base)) (fun p hp => ?_) ⟨⟨(Nat.ne_of_lt i1).symm, (Nat.ne_of_lt i2).symm, (Nat.ne_of_lt i3).symm⟩, off⟩ (hS ((X, rowObj b ks r t1 t2 t3) :: tup)) ⟨X, t1, t2, t3, rfl, rfl⟩
  rcases List.mem_cons.mp hp with rfl | hp
  · exact .tail _ (.head _)
  rcases List.mem_cons.mp hp with rfl | hp
  · exact .tail _ (.tail _ (.head _))
  rcases List.mem_cons.mp hp with rfl | hp
  · exact .tail _ (.tail _ (.tail _ (.head _)))
  rcases List.mem_cons.mp hp with rfl | hp
  · exact .head _
  · exact .tail _ (.tail _ (.tail _ (.tail _ (.tail _ (.tail _ hp)))))
theorem eq_told {prog : Program} {w : World} {A : Around} {E : Value → Shared → Prop} {s : Shared} {h₀ : Heap} {L : Addr} {b : Array UInt8} {ks : List Int} {D R : Addr} {ys ws : List Value} {nR : Nat} {tup tr base : List (Addr × Obj)} {rs : List (Int × Int × Int)} {Q : Value → Shared → Prop}
    (N : News h₀ L s.heap ((R, PySem.W.listOf ws.toArray nR) :: (tr ++ (D, LCg.lst ys) :: (tup ++ base)))) (E1 : Each (RowAt b ks tup) ys rs) (E2 : Each (RowAt b ks tr) ws rs)
    (lt : ∀ p ∈ (D, LCg.lst ys) :: (tup ++ base), ∀ q ∈ (R, PySem.W.listOf ws.toArray nR) :: tr, p.1 < q.1) (hu : A.units + 1 < cLine) (h : Q (.bool true) s) :
    wpAny (model prog w) A (compareOp .Eq (.ref D) (.ref R)) Q E s :=
  eq_rows (nD := ys.length) N (.tail _ (List.mem_append.mpr (.inr (.head _)))) (.head _) E1 E2 (fun _ hp => .tail _ (List.mem_append.mpr (.inr (.tail _ (List.mem_append.mpr (.inl hp)))))) (fun _ hp => .tail _ (List.mem_append.mpr (.inl hp)))
    (fun p hp q hq => lt p (.tail _ (List.mem_append.mpr (.inl hp))) q (.tail _ hq)) hu h
theorem pieces_len (ks : List Int) : ∀ (k : Nat) (n : Int), ((ks.length : Int) - n).toNat ≤ k → (pieces ks n).length ≤ k
  | 0, n, h => by
    cases e : nextM ks n with
    | none => rw [pieces_none e]; exact Nat.le_refl _
    | some i => have := nextM_some e; omega
  | k + 1, n, h => by
    cases e : nextM ks n with
    | none => rw [pieces_none e]; exact Nat.zero_le _
    | some i =>
      have hi := nextM_some e
      rw [pieces_some e]
      unfold piecesM
      split
      · exact Nat.zero_le _
      · split
        · cases e2 : behindS ks i with
          | none =>
            have := pieces_len ks k (i + 2) (by omega)
            dsimp only; omega
          | some d =>
            have hd := behindS_some e2
            have hle := dataEnd_le (ks := ks) (n := d) hd.2
            dsimp only
            rw [List.length_cons]
            refine Nat.succ_le_succ (pieces_len ks k _ ?_)
            split <;> omega
        · have := pieces_len ks k (i + 2) (by omega)
          omega
theorem each_len {R : Value → Int × Int × Int → Prop} {vs : List Value} {ks : List Int} (h : Each R vs (pieces ks 0)) : vs.length ≤ ks.length := by
  rw [h.length]
  exact pieces_len ks _ 0 (by omega)
end Mine
end

section
open PySem PySem.W PySem.Calls PyProof.Rows
namespace Mine
def RetS (h₀ : Heap) (L : Addr) (m : Str → Option Value) (S : Addr) (rest : List (Addr × Obj)) (s : Shared) (top : Int) (Q : Value → Shared → Prop) : Prop :=
  ∀ d t a' c' t1' t2' n' h' tk', 0 ≤ d → d < top → 0 ≤ c' → c' < 2147483647 → Fr h₀ L h' m → News h₀ L h' ((S, PySem.W.listOf #[.int a' t1', .int c' t2'] n') :: rest) → Q (.int d t) { s with heap := h', toks := tk' }
theorem fmod_m (x : Int) : 0 ≤ x.fmod 2147483647 ∧ x.fmod 2147483647 < 2147483647 := ⟨fmod_lo x (by decide), fmod_hi x (by decide)⟩
theorem mulOk_mod (x b : Int) : IntMulOk (x.fmod 2147483647) b := .of_left (intBits_le_64 (by have := fmod_m x; omega) (by have := fmod_m x; omega))
section
variable {w : World} {mean : ExcName → Option Value} {mg mb : Str → Option Value}
local macro_rules | `(tactic| walk_at "binaryOp Mult int int") => `(tactic| (k_here; (try simp only [show Int.toNat 1 = 1 from rfl, show Int.toNat 0 = 0 from rfl, List.getD_cons_succ, List.getD_cons_zero]); k_dflt (refine mul_int ?_ (mulOk_mod _ _))))
set_option maxHeartbeats 2000000 in
theorem c_law_take {top : Int} {tt : Tok} (h2 : 2 ≤ top) (h27 : top ≤ 27) {S : Addr} {a0 c0 : Int} {t1 t2 : Tok} {nn : Nat} (hc0 : 0 ≤ c0) (hc1 : c0 < 2147483647)
    {dp un : Nat} {gd : Option (List Code)} {cn : Str} {cs : Scope} {a : Addr} {ccd : Value} {cl : List (Str × Addr)} {outer : List Env} {A₀ : Around} {base h₀ : Heap} {L : Addr} {m : Str → Option Value} {rest : List (Addr × Obj)} {s : Shared} {Q E : Value → Shared → Prop}
    (B : Below A₀ base outer h₀) (F : Fr h₀ L s.heap m) (X : (headT.heap_39 w.params).In h₀) (N : News h₀ L s.heap ((S, PySem.W.listOf #[.int a0 t1, .int c0 t2] nn) :: rest)) (hoff : OwnOff rest [S])
    (T : Top headT.view_39 (looseW headT.view_39 [Str.ofString "Piece"]) mean mg mb h₀) (hk : cs.kind = .function) (hdp : dp + 2 < recursionLimit) (hun : un + 16 < cLine)
    (hret : RetS h₀ L m S rest s top Q) :
    wpAny (model PySem.Challenge.rw_nz0238_01.row.prog w) (ktrTop dp un gd cn cs L a ccd cl outer) (call (.ref 99) [.ref S, .int top tt]) Q E s := by
  w_top off
  k_with_none
  refine wpAny_call ?_
  k_dflt ktr_enter
  k_steps
  · refine hret _ _ _ _ _ _ _ _ _ (fmod_lo _ (by omega)) (fmod_hi _ (by omega)) ?_ ?_ (by assumption) (by k_asm)
    · exact hc0
    · exact hc1
  · refine hret _ _ _ _ _ _ _ _ _ (fmod_lo _ (by omega)) (fmod_hi _ (by omega)) ?_ ?_ (by assumption) (by k_asm)
    · exact (fmod_m _).1
    · exact (fmod_m _).2
end
end Mine
end

section
open PySem PySem.W PySem.Calls PyProof.Rows
namespace Mine
/-- a turn's end of a loop over a range whose ledger may change its places -/
def RgEnd {σ : Type} (h₀ : Heap) (L : Addr) (s₁ : Shared) (I : Addr) (oI : Obj) (x : Str) (Led : σ → List (Addr × Obj)) (ps : σ → List (Str × Value)) (Facts : σ → Prop) (stored : List Str) (m₀ : Str → Option Value) (P : σ → Prop) (s₂ : Shared) : Prop :=
  ∃ (c' : σ) (h' : Heap) (tk : Nat) (m' : Str → Option Value) (news' : List (Addr × Obj)), s₂ = { s₁ with heap := h', toks := tk } ∧ Fr h₀ L h' m' ∧ News h₀ L h' news' ∧ (I, oI) ∈ news' ∧ (∀ p ∈ Led c', p ∈ news') ∧ (∀ p ∈ Led c', p.1 ≠ I) ∧ Facts c' ∧ (∀ p ∈ ps c', m' p.1 = some p.2) ∧ (∀ z, z ≠ x → (∀ p ∈ ps c', z ≠ p.1) → stored.contains z = false → m' z = m₀ z) ∧ P c'
def RgPost {σ : Type} (h₀ : Heap) (L : Addr) (s₁ : Shared) (I : Addr) (oI : Obj) (x : Str) (Led : σ → List (Addr × Obj)) (ps : σ → List (Str × Value)) (Facts : σ → Prop) (stored : List Str) (m₀ : Str → Option Value) (P : σ → Prop) (Q : Flow → Shared → Prop) (f : Flow) (s₂ : Shared) : Prop :=
  match f with
  | .ret v => Q (.ret v) s₂
  | .brk => Q .next s₂
  | _ => RgEnd h₀ L s₁ I oI x Led ps Facts stored m₀ P s₂
theorem rg_end {σ : Type} {h₀ : Heap} {L : Addr} {s₁ : Shared} {I : Addr} {oI : Obj} {x : Str} {Led : σ → List (Addr × Obj)} {ps : σ → List (Str × Value)} {Facts : σ → Prop} {stored : List Str} {m₀ m' : Str → Option Value} {P : σ → Prop} {h' : Heap} {tk : Nat} {news' : List (Addr × Obj)} (c' : σ)
    (F : Fr h₀ L h' m') (N : News h₀ L h' news') (hi : (I, oI) ∈ news') (hn : ∀ p ∈ Led c', p ∈ news') (ho : ∀ p ∈ Led c', p.1 ≠ I) (hf : Facts c') (hk : ∀ p ∈ ps c', m' p.1 = some p.2) (hr : ∀ z, z ≠ x → (∀ p ∈ ps c', z ≠ p.1) → stored.contains z = false → m' z = m₀ z) (hp : P c') :
    RgEnd h₀ L s₁ I oI x Led ps Facts stored m₀ P { s₁ with heap := h', toks := tk } := ⟨c', h', tk, m', news', rfl, F, N, hi, hn, ho, hf, hk, hr, hp⟩
section
variable {prog : Program} {w : World} {A : Around} {E : Value → Shared → Prop} {s : Shared} {env : Env} {h₀ : Heap} {x : Str} {body : List Stmt} {Q : Flow → Shared → Prop}
theorem rg_range {σ : Type} {r : Addr} {a₀ b₀ : Int} {t₀ u₀ v₀ : Tok} {n : Nat} {m₀ : Str → Option Value} {news : List (Addr × Obj)} (Led : σ → List (Addr × Obj)) (ps : σ → List (Str × Value)) (Facts : σ → Prop) (stored : List Str) (P : Nat → σ → Prop) (c₀ : σ)
    (hh : A.handled = none) (hr : IsRange s.heap r a₀ b₀ 1 t₀ u₀ v₀) (hsmall : Builtin.Range.small a₀ b₀ 1 = true) (hn : Builtin.Range.rangeSize a₀ b₀ 1 = (n : Int)) (F : Fr h₀ env.locals s.heap m₀) (N : News h₀ env.locals s.heap news) (hN : ∀ p ∈ Led c₀, p ∈ news) (hf : Facts c₀) (hk : ∀ p ∈ ps c₀, m₀ p.1 = some p.2) (hp : P 0 c₀)
    (turn : ∀ (c : σ) (i : Nat) (k : Int) t (u : Str → Option Value) h tk I oI, i < n → (∀ p ∈ Led c, p.1 ≠ I) → Facts c → P i c →
      Fr h₀ env.locals h (fun y => if y = x then some (.int k t) else kstB (fun z => if stored.contains z then u z else m₀ z) (ps c) y) → News h₀ env.locals h ((I, oI) :: Led c) →
      wpAny (model prog w) A (execs body env) (RgPost h₀ env.locals { s with heap := h, toks := tk } I oI x Led ps Facts stored m₀ (P (i + 1)) Q) E { s with heap := h, toks := tk })
    (done : ∀ (c : σ) (u : Str → Option Value) h tk, Facts c → P n c → Fr h₀ env.locals h (fun y => if y = x then u y else kstB (fun z => if stored.contains z then u z else m₀ z) (ps c) y) → News h₀ env.locals h (Led c) → Q .next { s with heap := h, toks := tk }) :
    wpAny (model prog w) A (pyIter (.ref r)) (fun it s₂ => LoopAtV prog w A h₀ env x body Q E it s₂) E s := by
  refine wpAny_pyIter_range hr hsmall ?_
  have W : Walks prog w A s.heap.objs.size [s.heap.objs.size] [s.heap.objs.size] n (fun i v => i < n ∧ ∃ t, v = .int (a₀ + i * 1) t)
      (fun i h => IsRangeIter h s.heap.objs.size (a₀ + (i : Nat) * 1) ((n : Int) - (i : Nat)) 1) := (Walks.range hh _ a₀ 1 n).bound
  have N₀ : News h₀ env.locals s.heap (Led c₀) := fun p hp => N p (hN p hp)
  refine ⟨s.heap.objs.size, [s.heap.objs.size], [s.heap.objs.size], n, _, _, m₀, Led c₀,
    fun i m nx => ∃ c : σ, nx = Led c ∧ Facts c ∧ (∀ p ∈ ps c, m p.1 = some p.2) ∧ (∀ z, z ≠ x → (∀ p ∈ ps c, z ≠ p.1) → stored.contains z = false → m z = m₀ z) ∧ P i c,
    rfl, W, ?_, ?_, ?_, (by show IsRangeIter _ _ _ _ _; rw [hn]; simpa using Heap.get?_push_size _ rfl), (F.push _), (fun p hp => ⟨Heap.get?_push_of_some _ (N₀ p hp).1, (N₀ p hp).2⟩), ⟨c₀, rfl, hf, hk, fun _ _ _ _ => rfl, hp⟩, ?_, ?_⟩
  · intro hm
    exact absurd F.ns.lt ((List.mem_singleton.mp hm) ▸ Nat.lt_irrefl _)
  · intro b hb
    rw [List.mem_singleton.mp hb]
    exact next_is_new F
  · intro p hp hI
    exact absurd (Heap.lt_size (N₀ p hp).1) ((List.mem_singleton.mp hI) ▸ Nat.lt_irrefl _)
  · rintro i v m₁ news₁ s₁ own ⟨hh', tk', rfl⟩ hin ⟨_, t, rfl⟩ ⟨c, rfl, hf', h1, h2, hp'⟩ hoff hown hget hall hst F₁ N₁
    obtain ⟨oI, hst'⟩ : ∃ o, hh'.get? s.heap.objs.size = some o := ⟨_, hst⟩
    have hI := hall _ (List.mem_singleton.mpr rfl) (next_is_new F) _ hst'
    refine wpAny_mono (turn c i _ t m₁ hh' tk' s.heap.objs.size oI hin (fun p hp q => hoff p hp (List.mem_singleton.mpr q)) hf' hp' (kst_fr h1 h2 F₁) (fun p hp => N₁ p ?_)) (fun f s₂ p => ?_) fun _ _ e => e
    · rcases List.mem_cons.mp hp with rfl | hp
      · exact List.mem_append.mpr (.inl hI)
      · exact List.mem_append.mpr (.inr hp)
    · have fin : RgEnd h₀ env.locals { s with heap := hh', toks := tk' } s.heap.objs.size oI x Led ps Facts stored m₀ (P (i + 1)) s₂ → LoopStepU h₀ env.locals [s.heap.objs.size] own (fun m nx => ∃ c : σ, nx = Led c ∧ Facts c ∧ (∀ p ∈ ps c, m p.1 = some p.2) ∧ (∀ z, z ≠ x → (∀ p ∈ ps c, z ≠ p.1) → stored.contains z = false → m z = m₀ z) ∧ P (i + 1) c) { s with heap := hh', toks := tk' } .next s₂ := by
        rintro ⟨c', h', tk, m', news', e, F', N', hIn, hn', hoff', hf9, hk9, hr9, hp9⟩
        refine ⟨rfl, h', tk, m', Led c', e, F', fun p hp => ?_, fun p hp hq => hoff' p hp (List.mem_singleton.mp hq), c', rfl, hf9, hk9, hr9, hp9⟩
        rcases List.mem_append.mp hp with hp | hp
        · have e1 := List.mem_singleton.mp (hown p hp)
          have e2 := hget p hp
          have e3 : hh'.get? p.1 = some p.2 := e2
          rw [e1, hst'] at e3
          have : p = (s.heap.objs.size, oI) := by rw [← e1, Option.some.inj e3]
          rw [this]
          exact N' _ hIn
        · exact N' p (hn' p hp)
      cases f with
      | ret v => exact .ret p
      | brk => exact .brk p
      | next => exact .next (fin p)
      | cont => exact .cont (fin p)
  · rintro h' tk m' news' F' N' _ ⟨c, rfl, hf', h1, h2, hp'⟩
    exact done c m' h' tk hf' hp' (kst_frOut h1 h2 F') N'
end
end Mine
end

section
open PySem PySem.W PySem.Calls PyProof.Rows
namespace Mine
structure OcS where
  a : Int
  c : Int
  t1 : Tok
  t2 : Tok
  nS : Nat
  Fd : Addr
  fs : List Value
  ns : List Int
  nF : Nat
def ocLed (V : Addr) (oV : Obj) (S : Addr) (rest : List (Addr × Obj)) (c : OcS) : List (Addr × Obj) :=
  (c.Fd, PySem.W.listOf c.fs.toArray c.nF) :: (V, oV) :: (S, PySem.W.listOf #[.int c.a c.t1, .int c.c c.t2] c.nS) :: rest
def ocPs (c : OcS) : List (Str × Value) := [(Str.ofString "found", .ref c.Fd)]
def ocF (V : Addr) (c : OcS) : Prop := @LT.lt Nat _ V c.Fd ∧ 0 ≤ c.c ∧ c.c < 2147483647 ∧ IntsAre c.fs c.ns ∧ (∀ x ∈ c.ns, 0 ≤ x ∧ x < 256)
def ocP (i : Nat) (c : OcS) : Prop := c.ns.length ≤ 4 * i
abbrev ocSt : List Str := [Str.ofString "way"]
section
variable {prog : Program} {w : World} {A : Around} {E : Value → Shared → Prop} {s : Shared} {env : Env} {h₀ : Heap} {x : Str} {body : List Stmt} {Q : Flow → Shared → Prop}
theorem oc_range {L : Addr} (hL : env.locals = L) {r : Addr} {d : Int} {t₀ u₀ v₀ : Tok} {m₀ : Str → Option Value} {V S Fd : Addr} {oV : Obj} {rest : List (Addr × Obj)} {a c : Int} {t1 t2 : Tok} {nS : Nat}
    (hh : A.handled = none) (hr : IsRange s.heap r 0 d 1 t₀ u₀ v₀) (hd : d < 27) (hd0 : 0 ≤ d) (F : Fr h₀ L s.heap m₀)
    (N : News h₀ L s.heap ((Fd, PySem.W.listOf #[] 0) :: (V, oV) :: (S, PySem.W.listOf #[.int a t1, .int c t2] nS) :: rest)) (hV : @LT.lt Nat _ V Fd) (h1 : 0 ≤ c) (h2 : c < 2147483647) (hm : m₀ (Str.ofString "found") = some (.ref Fd))
    (turn : ∀ (c : OcS) (i : Nat) (k : Int) t (u : Str → Option Value) h tk I oI, i < (d - 0).toNat → (∀ p ∈ ocLed V oV S rest c, p.1 ≠ I) → ocF V c → ocP i c →
      Fr h₀ L h (fun y => if y = x then some (.int k t) else kstB (fun z => if ocSt.contains z then u z else m₀ z) (ocPs c) y) → News h₀ L h ((I, oI) :: ocLed V oV S rest c) →
      wpAny (model prog w) A (execs body env) (RgPost h₀ L { s with heap := h, toks := tk } I oI x (ocLed V oV S rest) ocPs (ocF V) ocSt m₀ (ocP (i + 1)) Q) E { s with heap := h, toks := tk })
    (done : ∀ (c : OcS) (u : Str → Option Value) h tk, ocF V c → ocP (d - 0).toNat c → Fr h₀ L h (fun y => if y = x then u y else kstB (fun z => if ocSt.contains z then u z else m₀ z) (ocPs c) y) → News h₀ L h (ocLed V oV S rest c) → Q .next { s with heap := h, toks := tk }) :
    wpAny (model prog w) A (pyIter (.ref r)) (fun it s₂ => LoopAtV prog w A h₀ env x body Q E it s₂) E s := by
  subst hL
  exact rg_range (ocLed V oV S rest) ocPs (ocF V) ocSt ocP ⟨a, c, t1, t2, nS, Fd, [], [], 0⟩ hh hr (small_one (by omega) (by omega) (by omega) (by omega)) (rangeSize_nat _ _) F N (fun _ h => h) ⟨hV, h1, h2, .nil, fun _ h => nomatch h⟩
    (fun p hp => by rw [List.mem_singleton.mp hp]; exact hm) (Nat.le_refl _) turn done
theorem oc_end1 {L : Addr} {s₁ : Shared} {m₀ m' : Str → Option Value} {V S Fd I : Addr} {oV oI : Obj} {rest : List (Addr × Obj)} {a1 c1 a' c' : Int} {q1 q2 t1 t2 t : Tok} {nS nS' nF : Nat} {fs : List Value} {ns : List Int} {v : Int} {i : Nat} {h' : Heap} {tk : Nat}
    (F : Fr h₀ L h' m') (N : News h₀ L h' ((I, oI) :: (Fd, PySem.W.listOf (fs.toArray.push (.int v t)) (nF + 1)) :: (V, oV) :: (S, PySem.W.listOf #[.int a' t1, .int c' t2] nS') :: rest))
    (ho : ∀ p ∈ ocLed V oV S rest ⟨a1, c1, q1, q2, nS, Fd, fs, ns, nF⟩, p.1 ≠ I) (f1 : @LT.lt Nat _ V Fd) (f2 : 0 ≤ c') (f3 : c' < 2147483647) (f4 : IntsAre fs ns) (f5 : ∀ x ∈ ns, 0 ≤ x ∧ x < 256) (hv : 0 ≤ v ∧ v < 256) (hp : ns.length ≤ 4 * i)
    (hk : ∀ p ∈ [(Str.ofString "found", Value.ref Fd)], m' p.1 = some p.2) (hr : ∀ z, z ≠ x → (∀ p ∈ [(Str.ofString "found", Value.ref Fd)], z ≠ p.1) → ocSt.contains z = false → m' z = m₀ z) :
    RgEnd h₀ L s₁ I oI x (ocLed V oV S rest) ocPs (ocF V) ocSt m₀ (ocP (i + 1)) { s₁ with heap := h', toks := tk } := by
  rw [List.push_toArray] at N
  refine rg_end ⟨a', c', t1, t2, nS', Fd, fs ++ [Value.int v t], ns ++ [v], nF + 1⟩ F N (.head _) (fun p hp => .tail _ hp) (fun p hp => ?_) ⟨f1, f2, f3, IntsAre.append f4 (.cons v t .nil), fun y hy => ?_⟩ hk hr ?_
  · have o1 : Fd ≠ I := ho (Fd, _) (.head _)
    have o3 : S ≠ I := ho (S, _) (.tail _ (.tail _ (.head _)))
    rcases List.mem_cons.mp hp with rfl | hp
    · exact o1
    rcases List.mem_cons.mp hp with rfl | hp
    · exact ho _ (.tail _ (.head _))
    rcases List.mem_cons.mp hp with rfl | hp
    · exact o3
    · exact ho _ (.tail _ (.tail _ (.tail _ hp)))
  · rcases List.mem_append.mp hy with hy | hy
    · exact f5 y hy
    · rw [List.mem_singleton.mp hy]; exact hv
  · show (ns ++ [v]).length ≤ 4 * (i + 1)
    rw [List.length_append, List.length_singleton]; omega
theorem oc_end2 {L : Addr} {s₁ : Shared} {m₀ m' : Str → Option Value} {V S Fd D I : Addr} {oV oI : Obj} {X Y Z : Addr × Obj} {rest : List (Addr × Obj)} {a1 c1 a' c' : Int} {q1 q2 t1 t2 : Tok} {nS nS' nF : Nat} {fs ws : List Value} {ns : List Int} {v w' : Int} {i : Nat} {h' : Heap} {tk : Nat}
    (F : Fr h₀ L h' m') (N : News h₀ L h' ((D, PySem.W.listOf ws.toArray 0) :: X :: Y :: (I, oI) :: Z :: (V, oV) :: (S, PySem.W.listOf #[.int a' t1, .int c' t2] nS') :: rest))
    (ho : ∀ p ∈ ocLed V oV S rest ⟨a1, c1, q1, q2, nS, Fd, fs, ns, nF⟩, p.1 ≠ I) (f0 : @LT.lt Nat _ I D) (f1 : @LT.lt Nat _ V D) (f2 : 0 ≤ c') (f3 : c' < 2147483647) (f4 : IntsAre ws (ns ++ [255, v, 0, 2 + w'])) (f5 : ∀ x ∈ ns, 0 ≤ x ∧ x < 256) (hv : 0 ≤ v ∧ v < 256) (hw : 0 ≤ w') (hw2 : w' < 3) (hp : ns.length ≤ 4 * i)
    (hk : ∀ p ∈ [(Str.ofString "found", Value.ref D)], m' p.1 = some p.2) (hr : ∀ z, z ≠ x → (∀ p ∈ [(Str.ofString "found", Value.ref D)], z ≠ p.1) → ocSt.contains z = false → m' z = m₀ z) :
    RgEnd h₀ L s₁ I oI x (ocLed V oV S rest) ocPs (ocF V) ocSt m₀ (ocP (i + 1)) { s₁ with heap := h', toks := tk } := by
  refine rg_end ⟨a', c', t1, t2, nS', D, ws, ns ++ [255, v, 0, 2 + w'], 0⟩ F N (.tail _ (.tail _ (.tail _ (.head _)))) (fun p hp => ?_) (fun p hp => ?_) ⟨f1, f2, f3, f4, fun y hy => ?_⟩ hk hr ?_
  · rcases List.mem_cons.mp hp with rfl | hp
    · exact .head _
    · exact .tail _ (.tail _ (.tail _ (.tail _ (.tail _ hp))))
  · have o3 : S ≠ I := ho (S, _) (.tail _ (.tail _ (.head _)))
    rcases List.mem_cons.mp hp with rfl | hp
    · exact (Nat.ne_of_lt f0).symm
    rcases List.mem_cons.mp hp with rfl | hp
    · exact ho _ (.tail _ (.head _))
    rcases List.mem_cons.mp hp with rfl | hp
    · exact o3
    · exact ho _ (.tail _ (.tail _ (.tail _ hp)))
  · rcases List.mem_append.mp hy with hy | hy
    · exact f5 y hy
    · simp only [List.mem_cons, List.not_mem_nil, or_false] at hy
      rcases hy with rfl | rfl | rfl | rfl
      · decide
      · exact hv
      · decide
      · omega
  · show (ns ++ [255, v, 0, 2 + w']).length ≤ 4 * (i + 1)
    rw [List.length_append]; simp only [List.length_cons, List.length_nil]; omega
end
def RetO (h₀ : Heap) (L : Addr) (m : Str → Option Value) (rest : List (Addr × Obj)) (s : Shared) (Q : Value → Shared → Prop) : Prop :=
  ∀ b t h' tk', (KBw.bInts b).length ≤ 26 → Fr h₀ L h' m → News h₀ L h' rest → Q (.bytes b t) { s with heap := h', toks := tk' }
section
variable {w : World} {mean : ExcName → Option Value} {mg mb : Str → Option Value}
theorem c_law_takeP {pre : List (Addr × Obj)} {top : Int} {tt : Tok} (h2 : 2 ≤ top) (h27 : top ≤ 27) {S : Addr} {a0 c0 : Int} {t1 t2 : Tok} {nn : Nat} (hc0 : 0 ≤ c0) (hc1 : c0 < 2147483647)
    {dp un : Nat} {gd : Option (List Code)} {cn : Str} {cs : Scope} {a : Addr} {ccd : Value} {cl : List (Str × Addr)} {outer : List Env} {A₀ : Around} {base h₀ : Heap} {L : Addr} {m : Str → Option Value} {rest : List (Addr × Obj)} {s : Shared} {Q E : Value → Shared → Prop}
    (B : Below A₀ base outer h₀) (F : Fr h₀ L s.heap m) (X : (headT.heap_39 w.params).In h₀) (N : News h₀ L s.heap (pre ++ (S, PySem.W.listOf #[.int a0 t1, .int c0 t2] nn) :: rest)) (hpre : ∀ p ∈ pre, p.1 ≠ S) (hoff : ∀ p ∈ rest, @LT.lt Nat _ p.1 S)
    (T : Top headT.view_39 (looseW headT.view_39 [Str.ofString "Piece"]) mean mg mb h₀) (hk : cs.kind = .function) (hdp : dp + 2 < recursionLimit) (hun : un + 16 < cLine)
    (hret : ∀ d t a' c' t1' t2' n' h' tk', 0 ≤ d → d < top → 0 ≤ c' → c' < 2147483647 → Fr h₀ L h' m → News h₀ L h' (pre ++ (S, PySem.W.listOf #[.int a' t1', .int c' t2'] n') :: rest) → Q (.int d t) { s with heap := h', toks := tk' }) :
    wpAny (model PySem.Challenge.rw_nz0238_01.row.prog w) (ktrTop dp un gd cn cs L a ccd cl outer) (call (.ref 99) [.ref S, .int top tt]) Q E s := by
  refine c_law_take (a0 := a0) (t1 := t1) (t2 := t2) (nn := nn) h2 h27 hc0 hc1 B F X (rest := pre ++ rest) (fun p hp => N p ?_) (fun p hp q hq => ?_) T hk hdp hun ?_
  · rcases List.mem_cons.mp hp with rfl | hp
    · exact List.mem_append.mpr (.inr (.head _))
    · rcases List.mem_append.mp hp with hp | hp
      · exact List.mem_append.mpr (.inl hp)
      · exact List.mem_append.mpr (.inr (.tail _ hp))
  · rw [List.mem_singleton.mp hq]
    rcases List.mem_append.mp hp with hp | hp
    · exact hpre p hp
    · exact Nat.ne_of_lt (hoff p hp)
  · intro d t a' c' t1' t2' n' h' tk' k1 k2 k3 k4 F' N'
    refine hret d t a' c' t1' t2' n' h' tk' k1 k2 k3 k4 F' (fun p hp => N' p ?_)
    rcases List.mem_append.mp hp with hp | hp
    · exact .tail _ (List.mem_append.mpr (.inl hp))
    rcases List.mem_cons.mp hp with rfl | hp
    · exact .head _
    · exact .tail _ (List.mem_append.mpr (.inr hp))
local macro_rules | `(tactic| walk_at "Mine.take") => `(tactic| ((case k1 => k_asm); (case k2 => k_asm); (case k3 => k_asm); (case k4 => k_asm); (case ko => k_all); (case kp => assumption); (case kc => assumption); (case kc2 => assumption); (case k5 => k_asm); (case kK => first | exact rfl | assumption); (case kd => ktr_room); (case ku => ktr_units); intro d9 t9 a9 c9 u9 v9 n9 h9 tk9 d9a d9b c9a c9b F9 N9; (simp only [List.nil_append, List.cons_append] at N9); (try dsimp only); (try k_fold)))
local macro_rules | `(tactic| walk_at "call ref") => `(tactic| (k_here; k_dflt (first
  | (refine' c_law_takeP (pre := [_, _]) (by decide) (by decide) ?kc ?kc2 ?k1 ?k2 ?k3 ?k4 ?ko ?kp ?k5 ?kK ?kd ?ku ?_; walk_at "Mine.take")
  | (refine' c_law_takeP (pre := [_, _, _]) (by decide) (by decide) ?kc ?kc2 ?k1 ?k2 ?k3 ?k4 ?ko ?kp ?k5 ?kK ?kd ?ku ?_; walk_at "Mine.take")
  | (refine' c_law_takeP (pre := [_, _, _, _]) (by decide) (by decide) ?kc ?kc2 ?k1 ?k2 ?k3 ?k4 ?ko ?kp ?k5 ?kK ?kd ?ku ?_; walk_at "Mine.take")
  | (refine' c_law_takeP (pre := [_, _, _, _, _]) (by decide) (by decide) ?kc ?kc2 ?k1 ?k2 ?k3 ?k4 ?ko ?kp ?k5 ?kK ?kd ?ku ?_; walk_at "Mine.take"))))
local macro_rules | `(tactic| walk_at "call type:bytes") => `(tactic| (k_here; (with_reducible show wpAny _ _ (call (Value.type "bytes") [Value.ref _]) _ _ _); k_dflt (refine' KBa.make_K ?kbaF ?kbaN ?kbah ?kbal ?kbai ?kbar ?kban ?_; (case kbaF => k_asm); (case kbaN => k_asm); (case kbah => rfl); (case kbal => exact News.isList (by k_asm) (by k_mem)); (case kbai => assumption); (case kbar => assumption); (case kban => omega)); intro _ _ _ F' N' kbaIn))
local macro_rules | `(tactic| walk_at "pyIter ref") => `(tactic| refine stop_here ?_)
set_option maxHeartbeats 2000000 in
theorem c_law_octets {S : Addr} {a0 c0 : Int} {t1 t2 : Tok} {nn : Nat} (hc0 : 0 ≤ c0) (hc1 : c0 < 2147483647)
    {dp un : Nat} {gd : Option (List Code)} {cn : Str} {cs : Scope} {a : Addr} {ccd : Value} {cl : List (Str × Addr)} {outer : List Env} {A₀ : Around} {base h₀ : Heap} {L : Addr} {m : Str → Option Value} {rest : List (Addr × Obj)} {s : Shared} {Q E : Value → Shared → Prop}
    (B : Below A₀ base outer h₀) (F : Fr h₀ L s.heap m) (X : (headT.heap_39 w.params).In h₀) (N : News h₀ L s.heap ((S, PySem.W.listOf #[.int a0 t1, .int c0 t2] nn) :: rest)) (hoff : ∀ p ∈ rest, @LT.lt Nat _ p.1 S)
    (T : Top headT.view_39 (looseW headT.view_39 [Str.ofString "Piece"]) mean mg mb h₀) (hk : cs.kind = .function) (hdp : dp + 4 < recursionLimit) (hun : un + 32 < cLine)
    (hret : RetO h₀ L m rest s Q) :
    wpAny (model PySem.Challenge.rw_nz0238_01.row.prog w) (ktrTop dp un gd cn cs L a ccd cl outer) (call (.ref 106) [.ref S]) Q E s := by
  w_top off
  k_with_none
  refine wpAny_call ?_
  k_dflt ktr_enter
  k_steps
  unfold Stop
  k_with_none
  rename Fr _ _ _ _ => lF'
  rename News _ _ _ _ => lN'
  rename IsRange _ _ _ _ _ _ _ _ => iR
  refine' oc_range ?hL rfl iR (by assumption) (by assumption) lF' lN' (by omega) (by assumption) (by assumption) ?kk ?turn ?done
  case hL => rfl
  case kk => with_unfolding_all rfl
  case turn =>
    clear lF' lN'
    rintro ⟨a1, c1, q1, q2, nS, Fd, fs, ns, nF⟩ i k t u h tk I oI hi hoI hF hP F9 N9
    have hoK := hoI
    dsimp only [ocLed, ocPs, ocF, ocP, kstB] at hF hP F9 N9 hoK
    obtain ⟨hF1, hF2, hF3, hF4, hF5⟩ := hF
    have hlen := hF4.length
    have o1 := neN (hoK _ (.head _))
    have o2 := neN (hoK _ (.tail _ (.head _)))
    have o3 := neN (hoK _ (.tail _ (.tail _ (.head _))))
    dsimp only at o1 o2 o3
    have hrF : AllLt Fd rest := allLt_of fun p hp => Nat.lt_trans (Nat.lt_trans (hoff p hp) (by omega)) hF1
    (try k_fold)
    k_steps
    · dsimp only [RgPost]
      refine' oc_end1 ?a1 ?a2 hoI hF1 ?a3 ?a4 hF4 hF5 ?a5 hP ?a6 ?a7
      case a1 => assumption
      case a2 => assumption
      case a3 => assumption
      case a4 => assumption
      case a5 => exact KBw.getD_in (by decide)
      case a6 => kst_all
      case a7 => (intro z hz h2 h3; (simp only [ocSt, List.forall_mem_cons, List.not_mem_nil, false_implies, implies_true, and_true, ne_eq] at h2); (simp only [List.contains_cons, List.contains_nil, Bool.or_false, Bool.or_eq_false_iff, beq_eq_false_iff_ne, ne_eq] at h3); simp [hz, h2, h3])
    · dsimp only [RgPost]
      refine' oc_end2 ?a1 ?a2 hoI ?b1 ?b2 ?a3 ?a4 ?a8 hF5 ?a5 ?b3 ?b4 hP ?a6 ?a7
      case a1 => assumption
      case a2 => assumption
      case a3 => assumption
      case a4 => assumption
      case a8 => assumption
      case b1 => omega
      case b2 => omega
      case b3 => assumption
      case b4 => assumption
      case a5 => exact KBw.getD_in (by decide)
      case a6 => kst_all
      case a7 => (intro z hz h2 h3; (simp only [ocSt, List.forall_mem_cons, List.not_mem_nil, false_implies, implies_true, and_true, ne_eq] at h2); (simp only [List.contains_cons, List.contains_nil, Bool.or_false, Bool.or_eq_false_iff, beq_eq_false_iff_ne, ne_eq] at h3); simp [hz, h2, h3])
  case done =>
    clear lF' lN'
    rintro ⟨a1, c1, q1, q2, nS, Fd, fs, ns, nF⟩ u h tk hF hP F9 N9
    dsimp only [ocLed, ocPs, ocF, ocP, kstB] at hF hP F9 N9
    obtain ⟨hF1, hF2, hF3, hF4, hF5⟩ := hF
    have hlen := hF4.length
    have hIn : KBa.In (List.take 26 ns) := fun n hn => hF5 n (List.mem_of_mem_take hn)
    (try k_fold)
    k_steps
    rename News h₀ L _ _ => nE
    refine hret _ _ _ _ ?_ (by assumption) (fun p hp => nE p (.tail _ (.tail _ (.tail _ (.tail _ hp)))))
    rw [KBa.ints_make hIn, List.length_take]
    omega
end
end Mine
end

section
open PySem PySem.W PySem.Calls PyProof.Rows
namespace Mine
theorem marksL_len (ks : List Int) : (marksL ks).length ≤ ks.length := by
  unfold marksL
  refine Nat.le_trans (List.length_filter_le _ _) ?_
  rw [rangeKs_length]; omega
theorem sp_cases {w : World} {b : Array UInt8} {ks : List Int} {tl : List (Addr × Obj)} {r : Value} (h : SpOut w b ks tl r) :
    ∃ P vs nn tl', r = .ref P ∧ tl = (P, PySem.W.listOf (List.toArray vs) nn) :: tl' ∧ (∀ q ∈ tl', @LT.lt Nat _ P q.1) ∧ Each (PcAt w b ks tl') vs (pieces ks 0) := h
theorem lp_cases {b : Array UInt8} {ks : List Int} {tl : List (Addr × Obj)} {r : Value} (h : LpOut b ks tl r) :
    ∃ R vs nn tl', r = .ref R ∧ tl = (R, PySem.W.listOf (List.toArray vs) nn) :: tl' ∧ (∀ q ∈ tl', @LT.lt Nat _ R q.1) ∧ Each (RowAt b ks tl') vs (pieces ks 0) := h
theorem bts_all (b : Array UInt8) : ∃ ks, KBw.bInts b = ks := ⟨_, rfl⟩
local macro_rules | `(tactic| walk_at "call ref") => `(tactic| (k_here; (with_reducible show wpAny _ _ (call (Value.ref 85) _) _ _ _); k_dflt (refine' ctr_use (c_salvaged_pieces ?kb ?kl _) ?k1 ?k2 ?k3 ?k4 ?k5 ?kK ?kd ?ku ?kp ?_); (case kb => assumption); (case kl => omega); (case k1 => k_asm); (case k2 => k_asm); (case k3 => k_asm); (case k4 => k_asm); (case k5 => k_asm); (case kK => first | exact rfl | assumption); (case kd => ktr_room); (case ku => ktr_units); (case kp => trivial); intro r9 tl9 h9 tk9 F9 N9 l9 o9; obtain ⟨P9, vs9, nn9, tq9, o1, o2, pl9, pE9⟩ := sp_cases o9; clear o9; subst o1; subst o2; (simp only [List.nil_append, List.cons_append] at N9); clear l9; (try dsimp only); (try k_fold)))
local macro_rules | `(tactic| walk_at "call ref") => `(tactic| (k_here; (with_reducible show wpAny _ _ (call (Value.ref 151) _) _ _ _); k_dflt (refine' ctr_use (c_law_pieces ?kb ?kl ?kl2 _) ?k1 ?k2 ?k3 ?k4 ?k5 ?kK ?kd ?ku ?kp ?_); (case kb => assumption); (case kl => omega); (case kl2 => omega); (case k1 => k_asm); (case k2 => k_asm); (case k3 => k_asm); (case k4 => k_asm); (case k5 => k_asm); (case kK => first | exact rfl | assumption); (case kd => ktr_room); (case ku => ktr_units); (case kp => trivial); intro r9 tl9 h9 tk9 F9 N9 l9 o9; obtain ⟨R9, ws9, nm9, tr9, o1, o2, rl9, rE9⟩ := lp_cases o9; clear o9; subst o1; subst o2; (simp only [List.nil_append, List.cons_append] at N9); (try dsimp only); (try k_fold)))
local macro_rules | `(tactic| walk_at "call ref") => `(tactic| (k_here; (with_reducible show wpAny _ _ (call (Value.ref 106) _) _ _ _); k_dflt (refine' c_law_octets ?kc ?kc2 ?k1 ?k2 ?k3 ?k4 ?ko ?k5 ?kK ?kd ?ku ?_; (case k1 => k_asm); (case k2 => k_asm); (case k3 => k_asm); (case k4 => k_asm); (case ko => exact fun _ h => nomatch h); (case kc => exact (fmod_m _).1); (case kc2 => exact (fmod_m _).2); (case k5 => k_asm); (case kK => first | exact rfl | assumption); (case kd => ktr_room); (case ku => ktr_units); intro b9 t9 h9 tk9 bl9 F9 N9; obtain ⟨ks9, hb9⟩ := bts_all b9; rw [hb9] at bl9; have ml9 := marksL_len ks9; (try dsimp only); (try k_fold))))
local macro_rules | `(tactic| walk_at "CompSrc") => `(tactic| refine stop_here ?_)
local macro_rules | `(tactic| walk_at "Mine.law") => `(tactic| (
    unfold Stop
    rename Each _ _ (pieces _ 0) => hE
    have hn := each_len hE
    refine LCg.CompSrc.ledger (by rfl) (by k_asm) (by k_asm) (.head _) (by rw [PySem.sizeLine_eq, List.size_toArray]; omega) ?_
    intro g1
    refine tl_rest hE (fun p hp => .tail _ (List.mem_append.mpr (.inl hp))) ?turn ?hS ?fin
    case hS => exact fun l => .inr ⟨_, List.mem_append.mpr (.inr (.head _)), rfl, _, rfl⟩
    case turn =>
      intro px dx k1 k2 k3 t1 t2 t3 r I oI C oC D m₂ ys tup h tk E' hC hx F9 N9 off ne hS
      dsimp only [pcDict] at N9
      (try k_fold)
      k_steps
      refine' tl_end ?f1 ?f2 off hS ?f3 ?f4 ?f5
      case f1 => assumption
      case f2 => assumption
      case f3 => omega
      case f4 => omega
      case f5 => omega
    case fin =>
      intro ys tup hT D h tk F9 N9 off9
      (try dsimp only)
      (try k_fold)
      k_steps
      refine' eq_told ?e1 hT ?e2 ?e3 ?e4 ?e5
      case e1 => assumption
      case e2 => assumption
      case e3 => assumption
      case e4 => ktr_units
      k_steps))
set_option maxRecDepth 100000 in
set_option maxHeartbeats 1000000 in
theorem hold : PySem.Challenge.rw_nz0238_01.Holds := headT (by
  w_top off
  k_with_none
  k_go0
  all_goals try k_fold
  k_with "exec Assign cons ListComp" => (k_dflt (refine LCg.Assign_ListComp_U (F₀ := by k_asm) (by rfl) (by with_unfolding_all rfl) (by with_unfolding_all rfl) (by decide) (by rfl) (by decide) (by rfl) (by rfl) (by rfl) ?_))
  k_steps
  · walk_at "Mine.law"
  · walk_at "Mine.law")
end Mine
end

set_option maxRecDepth 100000 in
theorem PySem.Challenge.cw_nz0238_01_holds : PySem.Challenge.rw_nz0238_01.Holds :=
  Mine.hold
