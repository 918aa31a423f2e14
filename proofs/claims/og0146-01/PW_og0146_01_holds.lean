import PyProof.Rows.All
import Wide.All
import OpenK.AllK
import Wide.FinOn
import PySem.Challenge.RW_og0146_01
open PySem PySem.W PyProof.Rows
set_option Elab.async false
set_option maxRecDepth 100000
namespace Mine
set_option maxHeartbeats 8000000
open_top hd for PySem.Challenge.rw_og0146_01
abbrev Led := List (Addr × Obj)
noncomputable abbrev PG : Program := PySem.Challenge.rw_og0146_01.row.prog

/-- what a call gives back to its caller, the ledger being as it was -/
abbrev Ret0 (h₀ : Heap) (L : Addr) (m : Str → Option Value) (news : Led) (s : Shared) (Q : Value → Shared → Prop) (R : Value → Prop) : Prop :=
  ∀ r h' tk', R r → Fr h₀ L h' m → News h₀ L h' news → Q r { s with heap := h', toks := tk' }
/-- .. with one object more -/
abbrev Ret1 (h₀ : Heap) (L : Addr) (m : Str → Option Value) (news : Led) (s : Shared) (Q : Value → Shared → Prop) (R : Addr → Obj → Prop) : Prop :=
  ∀ a o h' tk', R a o → Fr h₀ L h' m → News h₀ L h' ((a, o) :: news) → AllLt a news → Q (.ref a) { s with heap := h', toks := tk' }

/-- a contract of a def at f: from where it may be called, and what its caller may count upon -/
abbrev Ct (w : World) (k : Nat) (f : Addr) (vs : List Value) (news : Led) (Ret : Heap → Addr → (Str → Option Value) → Shared → (Value → Shared → Prop) → Prop) : Prop :=
  ∀ (mean : ExcName → Option Value) (mg mb : Str → Option Value) (dp un : Nat) (gd : Option (List Code)) (cn : Str) (cs : Scope) (a : Addr) (ccd : Value) (cl : List (Str × Addr)) (outer : List Env) (A₀ : Around) (base h₀ : Heap) (L : Addr) (m : Str → Option Value) (s : Shared)
    (Q E : Value → Shared → Prop),
    Below A₀ base outer h₀ → Fr h₀ L s.heap m → (hd.heap_39 w.params).In h₀ → News h₀ L s.heap news → Top hd.view_39 (looseW hd.view_39 [Str.ofString "PaperError"]) mean mg mb h₀ → cs.kind = .function → dp + k < recursionLimit → un + 8 * k < cLine →
    Ret h₀ L m s Q →
    wpAny (model PG w) (ktrTop dp un gd cn cs L a ccd cl outer) (call (.ref f) vs) Q E s

theorem ct_use {w : World} {k : Nat} {f : Addr} {vs : List Value} {news : Led} {Ret : Heap → Addr → (Str → Option Value) → Shared → (Value → Shared → Prop) → Prop} (C : Ct w k f vs news Ret)
    {mean : ExcName → Option Value} {mg mb : Str → Option Value} {dp un : Nat} {gd : Option (List Code)} {cn : Str} {cs : Scope} {a : Addr} {ccd : Value} {cl : List (Str × Addr)} {outer : List Env} {A₀ : Around} {base h₀ : Heap} {L : Addr} {m : Str → Option Value} {s : Shared}
    {Q E : Value → Shared → Prop} (B : Below A₀ base outer h₀) (F : Fr h₀ L s.heap m) (X : (hd.heap_39 w.params).In h₀) (N : News h₀ L s.heap news) (T : Top hd.view_39 (looseW hd.view_39 [Str.ofString "PaperError"]) mean mg mb h₀) (hk : cs.kind = .function)
    (hd : dp + k < recursionLimit) (hu : un + 8 * k < cLine) (ret : Ret h₀ L m s Q) : wpAny (model PG w) (ktrTop dp un gd cn cs L a ccd cl outer) (call (.ref f) vs) Q E s := C _ _ _ _ _ _ _ _ _ _ _ _ _ _ _ _ _ _ _ _ B F X N T hk hd hu ret

def Nrm (n p V : Int) : Prop := (p = 0 ∧ V = 10 * n ∧ -1000 ≤ n ∧ n ≤ 1000) ∨ (p = 1 ∧ V = n ∧ n % 10 ≠ 0 ∧ -1000 ≤ n ∧ n ≤ 1000)

/-- a Decimal of ten times the value V, as its own __init__ leaves it -/
inductive IsDec (news : Led) : Value → Int → Prop
  | mk {x dx : Addr} {h1 h2 : Int} {t1 t2 t3 t4 : Tok} {n p V : Int} (hx : (x, instObj 143 dx) ∈ news)
    (hdx : (dx, dictOf [⟨h1, .str (Str.ofString "top") t1, .int n t2⟩, ⟨h2, .str (Str.ofString "places") t3, .int p t4⟩] 2) ∈ news) (hn : Nrm n p V) : IsDec news (.ref x) V
theorem IsDec.sub {news : Led} {q : Addr × Obj} {v : Value} {V : Int} (h : IsDec news v V) : IsDec (q :: news) v V := by
  cases h with
  | mk hx hdx hn => exact .mk (.tail _ hx) (.tail _ hdx) hn
def sg (a b : Int) : Int := if a = b then 0 else if b < a then 1 else -1

theorem ex_int {x y : Int} {t : Tok} (h : x = y) : ∃ t', Value.int x t = Value.int y t' := ⟨t, h ▸ rfl⟩

section
variable {prog : Program} {w : World} {A : Around} {E : Value → Shared → Prop} {s : Shared} {h₀ : Heap} {L : Addr} {news : Led}
theorem sub_list {value slice : Expr} {l : Addr} {vs : List Value} {n : Nat} {k : Int} {u : Tok} {v : Value} {Q : Value → Shared → Prop} (N : News h₀ L s.heap news) (hm : (l, W.listOf vs.toArray n) ∈ news)
    (h0 : 0 ≤ k) (hhi : k < 2 ^ 63) (hx : vs[k.toNat]? = some v) (h : Q v s)
    (hs : subscripted slice false (.ref l) (.int k u) = operate [.ref l, .int k u] (getItem (.ref l) (.int k u)) := by with_unfolding_all rfl) :
    wpAny (model prog w) A (subscriptTail value slice (.ref l) (.int k u)) Q E s :=
  have hL : s.heap.IsList l vs.toArray := ⟨_, (N _ hm).1, rfl, n, rfl⟩
  tail_any hL.typeIs slot_list_getitem.lookup (wpAny_getItem_list hL h0 hhi (by simpa using hx) h) hs
abbrev tupOf (vs : List Value) (n : Nat) : Obj := { cls := .type "tuple", data := .seq vs.toArray n }
theorem sub_tup {value slice : Expr} {l : Addr} {vs : List Value} {n : Nat} {k : Int} {u : Tok} {v : Value} {j : Nat} {Q : Value → Shared → Prop} (N : News h₀ L s.heap news) (hm : (l, tupOf vs n) ∈ news)
    (hlo : -(2 ^ 63) ≤ k) (hhi : k < 2 ^ 63) (hj : seqIndex? k vs.length = some j) (hx : vs[j]? = some v) (h : Q v s)
    (hs : subscripted slice false (.ref l) (.int k u) = operate [.ref l, .int k u] (getItem (.ref l) (.int k u)) := by with_unfolding_all rfl) :
    wpAny (model prog w) A (subscriptTail value slice (.ref l) (.int k u)) Q E s :=
  item_tupleT ⟨_, (N _ hm).1, rfl, n, rfl⟩ hlo hhi hj hx h hs
end
theorem unr_end {h₀ : Heap} {L I : Addr} {it : Obj} {rest : (Str → Option Value) → Led → Prop} {s₁ : Shared} {h' : Heap} {tk : Nat} {m' : Str → Option Value} {all news' : Led} (l1 : ∀ p ∈ news', p.1 < I) (F : Fr h₀ L h' m') (N : News h₀ L h' all)
    (sub : ∀ p ∈ (I, it) :: news', p ∈ all) (r : rest m' news') : UnrEnd h₀ L s₁ I it rest { s₁ with heap := h', toks := tk } := UnrEnd.intro F N news' sub (fun p hp => Nat.ne_of_lt (l1 p hp)) r
theorem mem_hd {p : Addr × Obj} {l : Led} : p ∈ p :: l := .head _
theorem mem_tl {p q : Addr × Obj} {l : Led} (h : p ∈ l) : p ∈ q :: l := .tail _ h

theorem drop_led {h₀ h : Heap} {L : Addr} {news news' : Led} (N : News h₀ L h news') (hs : ∀ p ∈ news, p ∈ news') : News h₀ L h news := fun p hp => N p (hs p hp)
/-- one of two values, by their worth -/
def Pick (r v1 v2 : Value) (V V1 V2 : Int) : Prop := (r = v1 ∧ V = V1) ∨ (r = v2 ∧ V = V2)
theorem Pick.dec {news : Led} {r v1 v2 : Value} {V V1 V2 : Int} (p : Pick r v1 v2 V V1 V2) (d1 : IsDec news v1 V1) (d2 : IsDec news v2 V2) : IsDec news r V := by
  rcases p with ⟨rfl, rfl⟩ | ⟨rfl, rfl⟩ <;> assumption
structure Bx where
  l : Int
  b : Int
  r : Int
  t : Int
inductive IsBox (news : Led) : Value → Bx → Prop
  | mk {a : Addr} {n : Nat} {u0 u1 u2 u3 : Value} {B : Bx} (ha : (a, tupOf [u0, u1, u2, u3] n) ∈ news) (d0 : IsDec news u0 B.l) (d1 : IsDec news u1 B.b) (d2 : IsDec news u2 B.r) (d3 : IsDec news u3 B.t) : IsBox news (.ref a) B
theorem IsBox.sub {news : Led} {q : Addr × Obj} {v : Value} {B : Bx} (h : IsBox news v B) : IsBox (q :: news) v B := by
  cases h with
  | mk ha d0 d1 d2 d3 => exact .mk (.tail _ ha) d0.sub d1.sub d2.sub d3.sub
theorem comp_end {h₀ : Heap} {L I C D : Addr} {m : Str → Option Value} {s₁ : Shared} {oI oC oD : Obj} {S : Led → Prop} {rest : Value → Led → Prop} {y : Value} {h' : Heap} {tk : Nat} {all news' : Led}
    (F : Fr h₀ L h' m) (N : News h₀ L h' all) (sub : ∀ p ∈ (I, oI) :: (C, oC) :: (D, oD) :: news', p ∈ all) (off : LCg.Off3 I C D news') (hS : S news') (r : rest y news') :
    LCg.CompEnd h₀ L m s₁ I oI C oC D oD S rest y { s₁ with heap := h', toks := tk } := LCg.CompEnd.intro F N news' sub off hS r
theorem sg_min_gt {a b : Int} (h : 0 < sg a b) : min a b = b := by unfold sg at h; split at h <;> first | omega | (split at h <;> omega)
theorem sg_min_le {a b : Int} (h : ¬ 0 < sg a b) : min a b = a := by unfold sg at h; split at h <;> first | omega | (split at h <;> omega)
theorem sg_max_lt {a b : Int} (h : sg a b < 0) : max a b = b := by unfold sg at h; split at h <;> first | omega | (split at h <;> omega)
theorem sg_max_ge {a b : Int} (h : ¬ sg a b < 0) : max a b = a := by unfold sg at h; split at h <;> first | omega | (split at h <;> omega)
local macro_rules | `(tactic| k_of "new" => $t:tacticSeq) => do
  let t' ← t.raw.replaceM fun
    | .ident i r (.str .anonymous x) p => do if x.startsWith "zq" then return some (.ident i r (← Lean.Macro.addMacroScope (.mkSimple x)) p) else return none
    | _ => return none
  let u : Lean.TSyntax `Lean.Parser.Tactic.tacticSeq := ⟨t'⟩
  `(tactic| ($u))
local macro_rules | `(tactic| walk_at $s:str) => do
  let k := Lean.Syntax.mkStrLit ("m " ++ s.getString)
  `(tactic| k_extra $k)
local macro_rules | `(tactic| k_room) => `(tactic| ktr_room)
local macro_rules | `(tactic| k_units) => `(tactic| ktr_units)
local macro_rules | `(tactic| k_mem) => `(tactic| (focus ((repeat (first | exact mem_hd | ktr_member | refine' mem_tl ?_)); done)))
local macro_rules | `(tactic| ktr_rel) => `(tactic| first | assumption | (apply IsDec.sub; ktr_rel) | (apply IsBox.sub; ktr_rel) | (apply Pick.dec; assumption; ktr_rel; ktr_rel))
local macro_rules | `(tactic| ktn_open) => `(tactic| ((case zqB => k_asm); (case zqF => k_asm); (case zqX => k_asm); (case zqN => k_asm); (case zqT => k_asm); (case zqk => first | exact rfl | assumption); (case zqdd => ktr_room); (case zquu => ktr_units)))
theorem lines1 : True := by
  (k_with "m subscriptTail" => (k_of "new" => (k_here; (with_reducible show wpAny _ _ (subscriptTail _ _ (Value.ref _) (Value.int _ _)) _ _ _); k_dflt (first
  | (refine' sub_list ?zqN ?zqm ?zqa ?zqb ?zqd ?_; (case zqN => k_asm); (case zqm => k_mem); (case zqa => decide); (case zqb => decide); (case zqd => rfl); k_whole)
  | (refine' sub_tup ?zqN ?zqm ?zqa ?zqb ?zqc ?zqd ?_; (case zqN => k_asm); (case zqm => k_mem); (case zqa => decide); (case zqb => decide); (case zqc => rfl); (case zqd => rfl); k_whole)))))
  (k_with "m exec For Name Subscript cons nil" => (k_of "new" => (k_here; (rename Fr _ _ _ _ => lF'); (with_unfolding_all refine' For_invVF lF' ?zqk1 ?zqk2 ?_; (case zqk1 => exact rfl); (case zqk2 => exact rfl); k_whole))))
  (k_with "m pyIter ref" => (k_of "new" => ((with_reducible show wpAny _ _ (pyIter (Value.ref _)) (fun it s₂ => LoopAtV _ _ _ _ _ _ _ _ _ it s₂) _ _); k_here; (with_unfolding_all refine' iter_listUnr (by rfl) ?zqF ?zqN ?zqm ?zqc ?zqd ?_; (case zqF => k_asm); (case zqN => k_asm); (case zqm => k_mem); (case zqc => exact rfl); (case zqd => exact rfl)); intro i' l1)))
  (k_with "m UnrEnd" => (k_of "new" => (refine' unr_end ?zql ?zqF ?zqN ?zqs ?_; (case zql => assumption); (case zqF => k_asm); (case zqN => k_asm); (case zqs => (intro p hp; repeat (first | exact hp | refine mem_tl ?_))); (try (refine And.intro ?zqkmem ?_; (case zqkmem => k_mem))))))
  (k_with "m CompEnd" => (k_of "new" => (refine' comp_end ?zqF ?zqN ?zqs ?zqo ?zqS ?_; (case zqF => k_asm); (case zqN => k_asm); (case zqs => exact fun p hp => hp); (case zqo => first | assumption | lcg_off); (case zqS => lcg_src))))
  exact trivial
theorem decof_c {w : World} {news : Led} {v : Value} {V : Int} (d : IsDec news v V) :
    Ct w 1 161 [v] news (fun h₀ L m s Q => Ret0 h₀ L m news s Q fun r => r = v) := by
  unfold Ct PG
  try k_fill
  intro mean mg mb dp un gd cn cs a ccd cl outer A₀ base h₀ L m s Q E B F X N T hk hd hu hret
  obtain ⟨hx, hdx, hn⟩ := d
  refine wpAny_call ?_
  k_dflt ktr_enter
  k_steps
  exact hret _ _ _ rfl (by k_asm) (by k_asm)
theorem sign_of {n r : Int} (h0 : n = 0 → r = 0) (h1 : 0 < n → r = 1) (h2 : n < 0 → r = -1) : r = sg n 0 := by
  unfold sg
  split
  · exact h0 (by assumption)
  · split
    · exact h1 (by assumption)
    · exact h2 (by omega)
theorem sg_same {a b c d : Int} (h0 : a = b ↔ c = d) (h1 : b < a ↔ d < c) : sg a b = sg c d := by
  unfold sg
  simp only [h0, h1]
/-- ten to the nought or to the one -/
theorem pow_ten {prog : Program} {w : World} {A : Around} {E Q : Value → Shared → Prop} {s : Shared} {n : Int} {t u : Tok} (hn : n = 0 ∨ n = 1)
    (h : ∀ r, (n = 0 ∧ r = 1 ∨ n = 1 ∧ r = 10) → Q (.int r s.toks) { s with toks := s.toks + 1 }) : wpAny (model prog w) A (binaryOp .Pow (.int 10 t) (.int n u)) Q E s := by
  rcases hn with rfl | rfl
  · exact pow_int_small (by decide) (by decide) (by decide) (h _ (.inl ⟨rfl, rfl⟩))
  · exact pow_int_small (by decide) (by decide) (by decide) (h _ (.inr ⟨rfl, rfl⟩))
theorem mul_ten {prog : Program} {w : World} {A : Around} {E Q : Value → Shared → Prop} {s : Shared} {a r n : Int} {t u : Tok} (hr : n = 0 ∧ r = 1 ∨ n = 1 ∧ r = 10) (h0 : -1000 ≤ a) (h1 : a ≤ 1000)
    (h : ∀ c, (n = 0 ∧ c = a ∨ n = 1 ∧ c = 10 * a) → Q (.int c s.toks) { s with toks := s.toks + 1 }) : wpAny (model prog w) A (binaryOp .Mult (.int a t) (.int r u)) Q E s := by
  refine mul_int (h _ ?_) (IntMulOk.of_left (intBits_le_64 (by omega) (by omega)))
  rcases hr with ⟨x, rfl⟩ | ⟨x, rfl⟩
  · exact .inl ⟨x, Int.mul_one a⟩
  · exact .inr ⟨x, Int.mul_comm a 10⟩
theorem Nrm.lo {n p V : Int} (h : Nrm n p V) : -1000 ≤ n := by rcases h with ⟨_, _, h, _⟩ | ⟨_, _, _, h, _⟩ <;> exact h
theorem Nrm.hi {n p V : Int} (h : Nrm n p V) : n ≤ 1000 := by rcases h with ⟨_, _, _, h⟩ | ⟨_, _, _, _, h⟩ <;> exact h
theorem Nrm.pl {n p V : Int} (h : Nrm n p V) : p = 0 ∧ V = 10 * n ∨ p = 1 ∧ V = n := by rcases h with ⟨x, y, _⟩ | ⟨x, y, _⟩; exact .inl ⟨x, y⟩; exact .inr ⟨x, y⟩
/-- the greater of two ints, as max gives it -/
abbrev mx (p q : Int) : Int := if q > p then q else p
theorem pls {n m p q V W : Int} (h : Nrm n p V) (k : Nrm m q W) : (mx p q - p = 0 ∨ mx p q - p = 1) ∧ (mx p q - q = 0 ∨ mx p q - q = 1) := by
  rcases h.pl with ⟨rfl, _⟩ | ⟨rfl, _⟩ <;> rcases k.pl with ⟨rfl, _⟩ | ⟨rfl, _⟩ <;> decide
theorem pl1 {n m p q V W : Int} (h : Nrm n p V) (k : Nrm m q W) : mx p q - p = 0 ∨ mx p q - p = 1 := (pls h k).1
theorem pl2 {n m p q V W : Int} (h : Nrm n p V) (k : Nrm m q W) : mx p q - q = 0 ∨ mx p q - q = 1 := (pls h k).2
theorem scale_fact {n1 p1 V1 n2 p2 V2 c1 c2 : Int} (h1 : Nrm n1 p1 V1) (h2 : Nrm n2 p2 V2) (k1 : mx p1 p2 - p1 = 0 ∧ c1 = n1 ∨ mx p1 p2 - p1 = 1 ∧ c1 = 10 * n1) (k2 : mx p1 p2 - p2 = 0 ∧ c2 = n2 ∨ mx p1 p2 - p2 = 1 ∧ c2 = 10 * n2) :
    sg (c1 - c2) 0 = sg V1 V2 := by
  have one {a b : Int} : (a - b = 0 ↔ a = b) ∧ (0 < a - b ↔ b < a) := ⟨by omega, by omega⟩
  have ten {a b : Int} : (10 * a = 10 * b ↔ a = b) ∧ (10 * b < 10 * a ↔ b < a) := ⟨by omega, by omega⟩
  rcases h1.pl with ⟨rfl, rfl⟩ | ⟨rfl, rfl⟩ <;> rcases h2.pl with ⟨rfl, rfl⟩ | ⟨rfl, rfl⟩ <;>
    rcases k1 with ⟨e, rfl⟩ | ⟨e, rfl⟩ <;> (try exact absurd e (by decide)) <;> rcases k2 with ⟨f, rfl⟩ | ⟨f, rfl⟩ <;> (try exact absurd f (by decide)) <;>
    first | exact sg_same one.1 one.2 | exact sg_same (one.1.trans ten.1.symm) (one.2.trans ten.2.symm)
theorem sign_c {w : World} {news : Led} {n : Int} {t : Tok} :
    Ct w 1 154 [.int n t] news (fun h₀ L m s Q => Ret0 h₀ L m news s Q fun r => ∃ t', r = .int (sg n 0) t') := by
  unfold Ct PG
  try k_fill
  intro mean mg mb dp un gd cn cs a ccd cl outer A₀ base h₀ L m s Q E B F X N T hk hd hu hret
  refine wpAny_call ?_
  k_dflt ktr_enter
  k_steps
  all_goals (refine hret _ _ _ (ex_int ?_) (by k_asm) (by k_asm))
  all_goals (simp only [decide_eq_true_eq, decide_eq_false_iff_not, ite_true, ite_false, if_true, if_false] at *; exact sign_of (by first | exact fun _ => rfl | (intro h; omega)) (by first | exact fun _ => rfl | (intro h; omega)) (by first | exact fun _ => rfl | (intro h; omega)))
theorem lines2 : True := by
  (k_with "m call ref" => (k_of "new" => (k_here; k_dflt (refine' ct_use (decof_c ?zqd) ?zqB ?zqF ?zqX ?zqN ?zqT ?zqk ?zqdd ?zquu ?_; ktn_open; (case zqd => ktr_rel)); intro r' h' tk' hr' F' N'; subst hr'; (try k_sweep); (try dsimp only); (try k_fold))))
  (k_with "m call ref" => (k_of "new" => (k_here; k_dflt (refine' ct_use sign_c ?zqB ?zqF ?zqX ?zqN ?zqT ?zqk ?zqdd ?zquu ?_; ktn_open); intro r' h' tk' hr' F' N'; refine Exists.elim hr' ?_; clear hr'; intro t' e'; subst e'; (try k_sweep); (try dsimp only); (try k_fold))))
  exact trivial
theorem lines3 : True := by
  (k_with "m binaryOp Pow int int" => (k_of "new" => (k_here; (refine' pow_ten ?zqh ?_; (case zqh => first | exact pl1 (by assumption) (by assumption) | exact pl2 (by assumption) (by assumption))); intro r' hr')))
  (k_with "m binaryOp Mult int int" => (k_of "new" => (k_here; (refine' mul_ten ?zqr ?zqa ?zqb ?_; (case zqr => assumption); (case zqa => exact Nrm.lo (by assumption)); (case zqb => exact Nrm.hi (by assumption))); intro c' hc')))
  exact trivial
theorem scale_c {w : World} {news : Led} {v1 v2 : Value} {V1 V2 : Int} (d1 : IsDec news v1 V1) (d2 : IsDec news v2 V2) :
    Ct w 3 168 [v1, v2] news (fun h₀ L m s Q => Ret1 h₀ L m news s Q fun _ o => ∃ x y p t u c k, o = tupOf [.int x t, .int y u, .int p c] k ∧ sg (x - y) 0 = sg V1 V2) := by
  unfold Ct PG
  try k_fill
  intro mean mg mb dp un gd cn cs a ccd cl outer A₀ base h₀ L m s Q E B F X N T hk hd hu hret
  have e1 := d1
  have e2 := d2
  obtain ⟨hx1, hdx1, hn1⟩ := e1
  obtain ⟨hx2, hdx2, hn2⟩ := e2
  refine wpAny_call ?_
  k_dflt ktr_enter
  k_steps
  refine' hret _ _ _ _ ?e ?F ?N ?l
  (case F => k_asm)
  (case N => k_asm)
  (case l => exact allLt_of (by assumption))
  (case e => exact ⟨_, _, _, _, _, _, _, rfl, scale_fact hn1 hn2 (by assumption) (by assumption)⟩)
theorem lines4 : True := by
  (k_with "m call ref" => (k_of "new" => (k_here; k_dflt (refine' ct_use (scale_c ?zqd1 ?zqd2) ?zqB ?zqF ?zqX ?zqN ?zqT ?zqk ?zqdd ?zquu ?_; ktn_open; (case zqd1 => ktr_rel); (case zqd2 => ktr_rel)); intro a' o' h' tk' hr' F' N' l1; obtain ⟨x', y', p', t', u', c', k', e', hs'⟩ := hr'; subst e'; (try simp only [AllLt, and_true] at l1); (try k_sweep); (try dsimp only); (try k_fold))))
  exact trivial
theorem compared_c {w : World} {news : Led} {v1 v2 : Value} {V1 V2 : Int} (d1 : IsDec news v1 V1) (d2 : IsDec news v2 V2) :
    Ct w 4 98 [v1, v2] news (fun h₀ L m s Q => Ret0 h₀ L m news s Q fun r => ∃ t, r = .int (sg V1 V2) t) := by
  unfold Ct PG
  try k_fill
  intro mean mg mb dp un gd cn cs a ccd cl outer A₀ base h₀ L m s Q E B F X N T hk hd hu hret
  have e1 := d1
  obtain ⟨hx1, hdx1, hn1⟩ := e1
  refine wpAny_call ?_
  k_dflt ktr_enter
  k_steps
  refine' hret _ _ _ ?e (by k_asm) (drop_led (by k_asm) (fun p hp => by repeat (first | exact hp | refine mem_tl ?_)))
  (case e => exact ex_int (by assumption))
theorem lines5 : True := by
  (k_with "m call ref" => (k_of "new" => (k_here; k_dflt (refine' ct_use (compared_c ?zqd1 ?zqd2) ?zqB ?zqF ?zqX ?zqN ?zqT ?zqk ?zqdd ?zquu ?_; ktn_open; (case zqd1 => ktr_rel); (case zqd2 => ktr_rel)); intro r' h' tk' hr' F' N'; refine Exists.elim hr' ?_; clear hr'; intro t' e'; subst e'; (try k_sweep); (try dsimp only); (try k_fold))))
  exact trivial
theorem lines6 : True := by
  (k_with "m exec While BoolOp" => (k_of "new" => (k_here; k_dflt (refine whl_start 100 ?_))))
  exact trivial
theorem decimal_c {w : World} {news : Led} {n p V : Int} {t u : Tok} (hn : (p = 0 ∧ V = 10 * n) ∨ (p = 1 ∧ V = n)) (hb1 : -100 ≤ n) (hb2 : n ≤ 100) :
    Ct w 4 143 [.int n t, .int p u] news (fun h₀ L m s Q => ∀ x h' tk' dx o, (∀ nw, IsDec ((x, instObj 143 dx) :: (dx, o) :: nw) (.ref x) V) → Fr h₀ L h' m → News h₀ L h' ((x, instObj 143 dx) :: (dx, o) :: news) → AllLt dx news → dx < x → Q (.ref x) { s with heap := h', toks := tk' }) := by
  unfold Ct PG
  try k_fill
  intro mean mg mb dp un gd cn cs a ccd cl outer A₀ base h₀ L m s Q E B F X N T hk hd hu hret
  rcases hn with ⟨rfl, hV⟩ | ⟨rfl, hV⟩
  · have go : Nrm n 0 V := .inl ⟨rfl, hV, Int.le_trans (by decide) hb1, Int.le_trans hb2 (by decide)⟩
    k_dflt (refine' call_cls ?k1 ?k2 ?k3 ?k4 ?k5 ?k6 ?_; (case k1 => k_asm); (case k2 => k_asm); (case k3 => k_asm); (case k4 => k_is); (case k5 => k_is); (case k6 => k_is); intro x' d' h' F' N' l1 l2; (have l1' := allLt_of l1); (have l2' := ltN l2); ktr_enter)
    k_steps
    refine' hret _ _ _ _ _ ?e (by k_asm) ?n l1' l2
    (case n => k_asm)
    (case e => exact fun _ => .mk (.head _) (.tail _ (.head _)) go)
  by_cases h10 : n % 10 = 0
  · have go : Nrm (n / 10) 0 V := .inl ⟨rfl, hV.trans (Int.mul_ediv_cancel' (Int.dvd_of_emod_eq_zero h10)).symm, by omega, by omega⟩
    have h10' : (n.fmod 10 == 0) = true := by rw [Int.fmod_eq_emod_of_nonneg _ (by decide)]; simpa using h10
    have h10d : n.fdiv 10 = n / 10 := Int.fdiv_eq_ediv_of_nonneg _ (by decide)
    rw [← h10d] at go
    k_dflt (refine' call_cls ?k1 ?k2 ?k3 ?k4 ?k5 ?k6 ?_; (case k1 => k_asm); (case k2 => k_asm); (case k3 => k_asm); (case k4 => k_is); (case k5 => k_is); (case k6 => k_is); intro x' d' h' F' N' l1 l2; (have l1' := allLt_of l1); (have l2' := ltN l2); ktr_enter)
    k_steps
    refine' hret _ _ _ _ _ ?e (by k_asm) ?n l1' l2
    (case n => k_asm)
    (case e => exact fun _ => .mk (.head _) (.tail _ (.head _)) go)
  · have go : Nrm n 1 V := .inr ⟨rfl, hV, h10, Int.le_trans (by decide) hb1, Int.le_trans hb2 (by decide)⟩
    have h10' : (n.fmod 10 == 0) = false := by rw [Int.fmod_eq_emod_of_nonneg _ (by decide)]; simpa using h10
    k_dflt (refine' call_cls ?k1 ?k2 ?k3 ?k4 ?k5 ?k6 ?_; (case k1 => k_asm); (case k2 => k_asm); (case k3 => k_asm); (case k4 => k_is); (case k5 => k_is); (case k6 => k_is); intro x' d' h' F' N' l1 l2; (have l1' := allLt_of l1); (have l2' := ltN l2); ktr_enter)
    k_steps
    refine' hret _ _ _ _ _ ?e (by k_asm) ?n l1' l2
    (case n => k_asm)
    (case e => exact fun _ => .mk (.head _) (.tail _ (.head _)) go)
theorem least_c {w : World} {news : Led} {l : Addr} {n : Nat} {v1 v2 : Value} {V1 V2 : Int} (hl : (l, listOf [v1, v2].toArray n) ∈ news) (d1 : IsDec news v1 V1) (d2 : IsDec news v2 V2) :
    Ct w 6 175 [.ref l] news (fun h₀ L m s Q => Ret0 h₀ L m news s Q fun r => Pick r v1 v2 (min V1 V2) V1 V2) := by
  unfold Ct PG
  try k_fill
  intro mean mg mb dp un gd cn cs a ccd cl outer A₀ base h₀ L m s Q E B F X N T hk hd hu hret
  have e1 := d1
  have e2 := d2
  obtain ⟨hx1, hdx1, hn1⟩ := e1
  obtain ⟨hx2, hdx2, hn2⟩ := e2
  refine wpAny_call ?_
  k_dflt ktr_enter
  k_steps
  · exact hret _ _ _ (Or.inr ⟨rfl, sg_min_gt (by assumption)⟩) (by k_asm) (drop_led (by k_asm) (fun p hp => by repeat (first | exact hp | refine mem_tl ?_)))
  · exact hret _ _ _ (Or.inl ⟨rfl, sg_min_le (by assumption)⟩) (by k_asm) (drop_led (by k_asm) (fun p hp => by repeat (first | exact hp | refine mem_tl ?_)))
theorem greatest_c {w : World} {news : Led} {l : Addr} {n : Nat} {v1 v2 : Value} {V1 V2 : Int} (hl : (l, listOf [v1, v2].toArray n) ∈ news) (d1 : IsDec news v1 V1) (d2 : IsDec news v2 V2) :
    Ct w 6 182 [.ref l] news (fun h₀ L m s Q => Ret0 h₀ L m news s Q fun r => Pick r v1 v2 (max V1 V2) V1 V2) := by
  unfold Ct PG
  try k_fill
  intro mean mg mb dp un gd cn cs a ccd cl outer A₀ base h₀ L m s Q E B F X N T hk hd hu hret
  have e1 := d1
  have e2 := d2
  obtain ⟨hx1, hdx1, hn1⟩ := e1
  obtain ⟨hx2, hdx2, hn2⟩ := e2
  refine wpAny_call ?_
  k_dflt ktr_enter
  k_steps
  · exact hret _ _ _ (Or.inr ⟨rfl, sg_max_lt (by assumption)⟩) (by k_asm) (drop_led (by k_asm) (fun p hp => by repeat (first | exact hp | refine mem_tl ?_)))
  · exact hret _ _ _ (Or.inl ⟨rfl, sg_max_ge (by assumption)⟩) (by k_asm) (drop_led (by k_asm) (fun p hp => by repeat (first | exact hp | refine mem_tl ?_)))
theorem lines7 : True := by
  (k_with "m call ref" => (k_of "new" => (k_here; k_dflt (refine' ct_use (least_c ?zql ?zqd1 ?zqd2) ?zqB ?zqF ?zqX ?zqN ?zqT ?zqk ?zqdd ?zquu ?_; ktn_open; (case zql => k_mem); (case zqd1 => ktr_rel); (case zqd2 => ktr_rel)); intro r' h' tk' hr' F' N'; (try k_sweep); (try dsimp only); (try k_fold))))
  (k_with "m call ref" => (k_of "new" => (k_here; k_dflt (refine' ct_use (greatest_c ?zql ?zqd1 ?zqd2) ?zqB ?zqF ?zqX ?zqN ?zqT ?zqk ?zqdd ?zquu ?_; ktn_open; (case zql => k_mem); (case zqd1 => ktr_rel); (case zqd2 => ktr_rel)); intro r' h' tk' hr' F' N'; (try k_sweep); (try dsimp only); (try k_fold))))
  exact trivial
def BoxOf (v0 v1 v2 v3 : Value) (V0 V1 V2 V3 : Int) (_a : Addr) (o : Obj) : Prop :=
  ∃ u0 u1 u2 u3 k, o = tupOf [u0, u1, u2, u3] k ∧ Pick u0 v0 v2 (min V0 V2) V0 V2 ∧ Pick u1 v1 v3 (min V1 V3) V1 V3 ∧ Pick u2 v0 v2 (max V0 V2) V0 V2 ∧ Pick u3 v1 v3 (max V1 V3) V1 V3
theorem BoxOf.box {news : Led} {v0 v1 v2 v3 : Value} {V0 V1 V2 V3 : Int} {a : Addr} {o : Obj} (h : BoxOf v0 v1 v2 v3 V0 V1 V2 V3 a o) (ha : (a, o) ∈ news) (d0 : IsDec news v0 V0) (d1 : IsDec news v1 V1) (d2 : IsDec news v2 V2) (d3 : IsDec news v3 V3) :
    IsBox news (.ref a) ⟨min V0 V2, min V1 V3, max V0 V2, max V1 V3⟩ := by
  obtain ⟨u0, u1, u2, u3, k, rfl, p0, p1, p2, p3⟩ := h
  exact .mk ha (p0.dec d0 d2) (p1.dec d1 d3) (p2.dec d0 d2) (p3.dec d1 d3)
theorem boxof_c {w : World} {news : Led} {l p1 p2 : Addr} {n n1 n2 : Nat} {v0 v1 v2 v3 : Value} {V0 V1 V2 V3 : Int} (hl : (l, W.listOf [.ref p1, .ref p2].toArray n) ∈ news) (h1 : (p1, tupOf [v0, v1] n1) ∈ news) (h2 : (p2, tupOf [v2, v3] n2) ∈ news)
    (d0 : IsDec news v0 V0) (d1 : IsDec news v1 V1) (d2 : IsDec news v2 V2) (d3 : IsDec news v3 V3) :
    Ct w 8 187 [.ref l] news (fun h₀ L m s Q => Ret1 h₀ L m news s Q (BoxOf v0 v1 v2 v3 V0 V1 V2 V3)) := by
  unfold Ct PG
  try k_fill
  intro mean mg mb dp un gd cn cs a ccd cl outer A₀ base h₀ L m s Q E B F X N T hk hd hu hret
  refine wpAny_call ?_
  k_dflt ktr_enter
  k_steps
  refine' hret _ _ _ _ ?e (by k_asm) (drop_led (by k_asm) ?s) (by tbn_find)
  (case s => (intro p hp; rcases List.mem_cons.mp hp with rfl | hp; exact mem_hd; refine mem_tl ?_; repeat (first | exact hp | refine mem_tl ?_)))
  (case e => exact ⟨_, _, _, _, _, rfl, by assumption, by assumption, by assumption, by assumption⟩)
theorem lines8 : True := by
  (k_with "m call ref" => (k_of "new" => (k_here; k_dflt (refine' ct_use (boxof_c ?zql ?zqh1 ?zqh2 ?zqd1 ?zqd2 ?zqd3 ?zqd4) ?zqB ?zqF ?zqX ?zqN ?zqT ?zqk ?zqdd ?zquu ?_; ktn_open; (case zql => k_mem); (case zqh1 => k_mem); (case zqh2 => k_mem); (case zqd1 => ktr_rel); (case zqd2 => ktr_rel); (case zqd3 => ktr_rel); (case zqd4 => ktr_rel)); intro a' o' h' tk' hr' F' N' l1; (try simp only [AllLt, and_true] at l1); (try k_sweep); (try dsimp only); (try k_fold))))
  exact trivial
theorem boxfrom_c {w : World} {news : Led} {l : Addr} {n : Nat} {v0 v1 v2 v3 : Value} {V0 V1 V2 V3 : Int} (hl : (l, W.listOf [v0, v1, v2, v3].toArray n) ∈ news)
    (d0 : IsDec news v0 V0) (d1 : IsDec news v1 V1) (d2 : IsDec news v2 V2) (d3 : IsDec news v3 V3) :
    Ct w 10 194 [.ref l] news (fun h₀ L m s Q => Ret1 h₀ L m news s Q (BoxOf v0 v1 v2 v3 V0 V1 V2 V3)) := by
  unfold Ct PG
  try k_fill
  intro mean mg mb dp un gd cn cs a ccd cl outer A₀ base h₀ L m s Q E B F X N T hk hd hu hret
  refine wpAny_call ?_
  k_dflt ktr_enter
  k_steps
  refine' hret _ _ _ _ ?e (by k_asm) (drop_led (by k_asm) ?s) (by tbn_find)
  (case s => (intro p hp; rcases List.mem_cons.mp hp with rfl | hp; exact mem_hd; refine mem_tl ?_; repeat (first | exact hp | refine mem_tl ?_)))
  (case e => assumption)
theorem lines9 : True := by
  (k_with "m call ref" => (k_of "new" => (k_here; k_dflt (refine' ct_use (boxfrom_c ?zql ?zqd1 ?zqd2 ?zqd3 ?zqd4) ?zqB ?zqF ?zqX ?zqN ?zqT ?zqk ?zqdd ?zquu ?_; ktn_open; (case zql => k_mem); (case zqd1 => ktr_rel); (case zqd2 => ktr_rel); (case zqd3 => ktr_rel); (case zqd4 => ktr_rel)); intro a' o' h' tk' hr' F' N' l1; (try simp only [AllLt, and_true] at l1); (try k_sweep); (try dsimp only); (try k_fold))))
  exact trivial
theorem dec_compared {w : World} {A : Around} {E : Value → Shared → Prop} {s : Shared} {h₀ : Heap} {L : Addr} {m : Str → Option Value} {news : Led} {v : Value} {V : Int} {pl : Sem Bool} {Q : Value × List Value → Shared → Prop}
    (F : Fr h₀ L s.heap m) (X : (hd.heap_39 w.params).In h₀) (N : News h₀ L s.heap news) (d : IsDec news v V) (h : Q (.ref 98, [v]) s) : wpAny (model PG w) A (getMethod v (Str.ofString "compared") pl) Q E s := by
  revert X
  unfold PG
  try k_fill
  intro X
  obtain ⟨hx, hdx, hn⟩ := d
  k_dflt (refine' method_inst F X (InstAt.of_news N hx hdx) ?k4 ?k5 ?k6 ?k7 h; (case k4 => k_is); (case k5 => k_is); (case k6 => k_is); (case k7 => k_get))
theorem lines10 : True := by
  (k_with "m getMethod" => (k_of "new" => (k_here; k_dflt (refine' dec_compared ?zqF ?zqX ?zqN ?zqd ?_; (case zqF => k_asm); (case zqX => k_asm); (case zqN => k_asm); (case zqd => ktr_rel)))))
  exact trivial
/-- what common_box gives: none, or the meet -/
def meetB (P O : Bx) : Bx := ⟨max P.l O.l, max P.b O.b, min P.r O.r, min P.t O.t⟩
def gapB (P O : Bx) : Bool := decide ((meetB P O).l > (meetB P O).r) || decide ((meetB P O).b > (meetB P O).t)
theorem sg_pos {a b : Int} : 0 < sg a b ↔ b < a := by unfold sg; split <;> first | omega | (split <;> omega)
theorem gap_l {P O : Bx} (h : 0 < sg (max P.l O.l) (min P.r O.r)) : gapB P O = true := by
  rw [sg_pos] at h
  unfold gapB
  rw [Bool.or_eq_true]
  exact .inl (decide_eq_true h)
theorem gap_b {P O : Bx} (h : 0 < sg (max P.b O.b) (min P.t O.t)) : gapB P O = true := by
  rw [sg_pos] at h
  unfold gapB
  rw [Bool.or_eq_true]
  exact .inr (decide_eq_true h)
theorem gap_no {P O : Bx} (h : ¬ 0 < sg (max P.l O.l) (min P.r O.r)) (h' : ¬ 0 < sg (max P.b O.b) (min P.t O.t)) : gapB P O = false := by
  rw [sg_pos] at h h'
  unfold gapB
  rw [Bool.or_eq_false_iff]
  exact ⟨decide_eq_false h, decide_eq_false h'⟩
theorem common_c {w : World} {news : Led} {v1 v2 : Value} {P O : Bx} (b1 : IsBox news v1 P) (b2 : IsBox news v2 O) :
    Ct w 8 215 [v1, v2] news (fun h₀ L m s Q => (gapB P O = true → Ret0 h₀ L m news s Q fun r => r = .none) ∧ (gapB P O = false → Ret1 h₀ L m news s Q fun a o => IsBox ((a, o) :: news) (.ref a) (meetB P O))) := by
  unfold Ct PG
  try k_fill
  intro mean mg mb dp un gd cn cs a ccd cl outer A₀ base h₀ L m s Q E B F X N T hk hd hu hret
  obtain ⟨hret0, hret1⟩ := hret
  obtain ⟨ha, d0, d1, d2, d3⟩ := b1
  obtain ⟨hb, e0, e1, e2, e3⟩ := b2
  refine wpAny_call ?_
  k_dflt ktr_enter
  k_steps
  · exact hret0 (gap_l (by assumption)) _ _ _ rfl (by k_asm) (drop_led (by k_asm) (fun p hp => by repeat (first | exact hp | refine mem_tl ?_)))
  · exact hret0 (gap_b (by assumption)) _ _ _ rfl (by k_asm) (drop_led (by k_asm) (fun p hp => by repeat (first | exact hp | refine mem_tl ?_)))
  · refine' hret1 (gap_no (by assumption) (by assumption)) _ _ _ _ ?e (by k_asm) (drop_led (by k_asm) ?s) (by tbn_find)
    (case s => (intro p hp; rcases List.mem_cons.mp hp with rfl | hp; exact mem_hd; refine mem_tl ?_; repeat (first | exact hp | refine mem_tl ?_)))
    (case e => exact .mk mem_hd (by ktr_rel) (by ktr_rel) (by ktr_rel) (by ktr_rel))
theorem lines11 : True := by
  (k_with "m call ref" => (k_of "new" => (k_here; k_dflt (refine' ct_use (common_c ?zqb1 ?zqb2) ?zqB ?zqF ?zqX ?zqN ?zqT ?zqk ?zqdd ?zquu ?_; ktn_open; (case zqb1 => ktr_rel); (case zqb2 => ktr_rel)); refine And.intro (fun hg' => ?_) (fun hg' => ?_))))
  exact trivial
def inB (F : Bx) (x y : Int) : Bool := decide (F.l ≤ x ∧ x ≤ F.r ∧ F.b ≤ y ∧ y ≤ F.t)
theorem sg_le0 {a b : Int} : sg a b ≤ 0 ↔ a ≤ b := by unfold sg; split <;> first | omega | (split <;> omega)
theorem sg_ge0 {a b : Int} : 0 ≤ sg a b ↔ b ≤ a := by unfold sg; split <;> first | omega | (split <;> omega)
theorem sg_lt0 {a b : Int} : sg a b < 0 ↔ a < b := by unfold sg; split <;> first | omega | (split <;> omega)
theorem inbox_c {w : World} {news : Led} {v x y : Value} {G : Bx} {X Y : Int} (b : IsBox news v G) (dx : IsDec news x X) (dy : IsDec news y Y) :
    Ct w 8 208 [v, x, y] news (fun h₀ L m s Q => Ret0 h₀ L m news s Q fun r => r = .bool (inB G X Y)) := by
  unfold Ct PG
  try k_fill
  intro mean mg mb dp un gd cn cs a ccd cl outer A₀ base h₀ L m s Q E B F X N T hk hd hu hret
  obtain ⟨ha, d0, d1, d2, d3⟩ := b
  refine wpAny_call ?_
  k_dflt ktr_enter
  k_steps
  all_goals (refine hret _ _ _ (congrArg Value.bool ?_) (by k_asm) (by k_asm); unfold inB; rw [Bool.eq_iff_iff])
  all_goals (simp only [sg_le0, sg_ge0, decide_eq_true_eq, decide_eq_false_iff_not] at *; omega)
theorem lines12 : True := by
  (k_with "m call ref" => (k_of "new" => (k_here; k_dflt (refine' ct_use (inbox_c ?zqb1 ?zqd1 ?zqd2) ?zqB ?zqF ?zqX ?zqN ?zqT ?zqk ?zqdd ?zquu ?_; ktn_open; (case zqb1 => ktr_rel); (case zqd1 => ktr_rel); (case zqd2 => ktr_rel)); intro r' h' tk' hr' F' N'; subst hr'; (try k_sweep); (try dsimp only); (try k_fold))))
  (k_with "m exec For Name List cons nil" => (k_of "new" => (k_here; (rename Fr _ _ _ _ => lF'); (with_unfolding_all refine' For_invVF lF' ?zqk1 ?zqk2 ?_; (case zqk1 => exact rfl); (case zqk2 => exact rfl); k_whole))))
  exact trivial
def gap2 (P O : Bx) : Bool := decide (P.r < O.l ∨ O.r < P.l ∨ P.t < O.b ∨ O.t < P.b)
theorem gap_c {w : World} {news : Led} {v1 v2 : Value} {P O : Bx} (b1 : IsBox news v1 P) (b2 : IsBox news v2 O) :
    Ct w 8 256 [v1, v2] news (fun h₀ L m s Q => Ret0 h₀ L m news s Q fun r => r = .bool (gap2 P O)) := by
  unfold Ct PG
  try k_fill
  intro mean mg mb dp un gd cn cs a ccd cl outer A₀ base h₀ L m s Q E B F X N T hk hd hu hret
  obtain ⟨ha, d0, d1, d2, d3⟩ := b1
  obtain ⟨hb, e0, e1, e2, e3⟩ := b2
  refine wpAny_call ?_
  k_dflt ktr_enter
  k_steps
  all_goals (refine hret _ _ _ (congrArg Value.bool ?_) (by k_asm) (drop_led (by k_asm) (fun p hp => by repeat (first | exact hp | refine mem_tl ?_))); unfold gap2; rw [Bool.eq_iff_iff])
  all_goals (simp only [sg_lt0, decide_eq_true_eq, decide_eq_false_iff_not, Bool.false_eq_true, true_iff, false_iff] at *; omega)
theorem lines13 : True := by
  (k_with "m call ref" => (k_of "new" => (k_here; k_dflt (refine' ct_use (gap_c ?zqb1 ?zqb2) ?zqB ?zqF ?zqX ?zqN ?zqT ?zqk ?zqdd ?zquu ?_; ktn_open; (case zqb1 => ktr_rel); (case zqb2 => ktr_rel)); intro r' h' tk' hr' F' N'; subst hr'; (try k_sweep); (try dsimp only); (try k_fold))))
  exact trivial
theorem eq_len {prog : Program} {w : World} {A : Around} {E Q : Value → Shared → Prop} {s : Shared} {h₀ : Heap} {L l l2 : Addr} {news : Led} {xs ys : List Value} {n n2 : Nat} (N : News h₀ L s.heap news) (ha : (l, W.listOf xs.toArray n) ∈ news) (hb : (l2, W.listOf ys.toArray n2) ∈ news)
    (hsz : (xs.toArray.size != ys.toArray.size) = true) (hu : A.units < cLine) (h : Q (.bool false) s) : wpAny (model prog w) A (compareOp .Eq (.ref l) (.ref l2)) Q E s :=
  SeqAt.eq_list_lengthsAt ⟨_, (N _ ha).1, rfl, n, rfl⟩ ⟨_, (N _ hb).1, rfl, n2, rfl⟩ hsz hu h
theorem size_ne {ys : List Value} (h : ys ≠ []) : (ys.toArray.size != ([] : List Value).toArray.size) = true := by
  cases ys with
  | nil => exact absurd rfl h
  | cons _ _ => rfl
/-- a goal that the walk lays by -/
def Hold (p : Prop) : Prop := p
theorem Hold.intro {p : Prop} (h : Hold p) : p := h
open LCg LCt in
theorem comp_restT_J {prog : Program} {w : World} {A : Around} {h₀ : Heap} {L : Addr} {m : Str → Option Value} {env : Env} {ct elt : Expr} {x : Str} {scope : Scope} {cl : List (Str × Addr)} {s : Shared} {S : Led → Prop} {P : Nat → Value → Prop} {Fin : List Value → Led → Prop} {n : Nat} {news : Led} (J : Nat → List Value → Prop)
    (step : ∀ (i : Nat) (v : Value) (I : Addr) (oI : Obj) (C : Addr) (oC : Obj) (D : Addr) (m₂ : Str → Option Value) (h : Heap) (tk : Nat) (E' : Value → Shared → Prop) (ys : List Value) (R1 R2 : Value → Led → Prop), P i v → i < n → J i ys → NsObj oC m₂ → m₂ x = some v → Fr h₀ L h m →
      News h₀ L h ((I, oI) :: (C, oC) :: (D, lst ys) :: news) → Off3 I C D news → ((@Ne Nat I C) ∧ (@Ne Nat I D) ∧ (@Ne Nat C D)) → (∀ y, J (i + 1) (ys ++ [y]) → R1 y news) → (∀ y, J (i + 1) ys → R2 y news) →
      wpAny (model prog w) A (isTrue ct (compEnvC scope cl C env) (eval ct (compEnvC scope cl C env))) (fun ok s' => if ok = true then
        wpAny (model prog w) A (eval elt (compEnvC scope cl C env)) (CompEnd h₀ L m { s with heap := h, toks := tk } I oI C oC D (lst ys) S R1) E' s'
        else CompEnd h₀ L m { s with heap := h, toks := tk } I oI C oC D (lst ys) S R2 Value.none s') E' { s with heap := h, toks := tk })
    (fin : ∀ ys, J n ys → Fin ys news) : ∀ k i ys, J i ys → i + k = n → CompRestT prog w A h₀ L m env ct elt x scope cl s S P Fin k i ys news := by
  intro k
  induction k with
  | zero =>
    intro i ys hJ e
    obtain rfl : i = n := e
    exact CompRestT.zero (fin ys hJ)
  | succ k ih =>
    intro i ys hJ e
    refine CompRestT.succ fun v I oI C oC D m₂ h tk E' hv hC hx F N off ne => ?_
    exact step i v I oI C oC D m₂ h tk E' ys _ _ hv (by omega) hJ hC hx F N off ne (fun y hy => ih (i + 1) _ hy (by omega)) (fun _ hy => ih (i + 1) _ hy (by omega))
theorem lines14 : True := by
  (k_with "m eval ListComp" => (k_of "new" => (k_here; k_dflt (refine LCt.ListComp_T (F₀ := by k_asm) (by with_unfolding_all rfl) (by decide) (by rfl) (by decide) (by rfl) ?_))))
  (k_with "m CompSrcT" => (k_of "new" => (k_here; k_dflt (refine LCt.CompSrcT.ledger (by rfl) (by k_asm) (by k_asm) (by k_mem) (by exact Nat.le_of_ble_eq_true rfl) ?_); intro g'; (show LCt.CompRestT _ _ _ _ _ _ _ _ _ _ _ _ _ _ _ _ 4 _ _ _); apply Hold.intro)))
  (k_with "m compareOp Eq ref ref" => (k_of "new" => (k_here; k_dflt (refine' eq_len ?zqN ?zqa ?zqb ?zqz ?zqu ?_; (case zqN => k_asm); (case zqa => k_mem); (case zqb => k_mem); (case zqz => first | rfl | exact size_ne (by assumption)); (case zqu => ktr_units)))))
  exact trivial
def liesB (P O : Bx) : Bool := inB O P.l P.b && inB O P.r P.b && inB O P.r P.t && inB O P.l P.t
/-- a corner of the ledger, and whether it lies in O -/
def Corner (O : Bx) (led : Led) (v : Value) (g : Bool) : Prop := ∃ p k ux uy X Y, v = .ref p ∧ (p, tupOf [ux, uy] k) ∈ led ∧ IsDec led ux X ∧ IsDec led uy Y ∧ inB O X Y = g
def up (G : List Bool) (i : Nat) : Bool := (G.take i).all id
theorem corner_at {O : Bx} {led : Led} {v v0 v1 v2 v3 : Value} {g0 g1 g2 g3 : Bool} {i : Nat} (h0 : Corner O led v0 g0) (h1 : Corner O led v1 g1) (h2 : Corner O led v2 g2) (h3 : Corner O led v3 g3) (h : #[v0, v1, v2, v3][i]? = some v) (hi : i < 4) :
    ∃ g, Corner O led v g ∧ up [g0, g1, g2, g3] (i + 1) = (up [g0, g1, g2, g3] i && g) := by
  match i, hi with
  | 0, _ => obtain rfl : v0 = v := Option.some.inj h; exact ⟨g0, h0, by cases g0 <;> rfl⟩
  | 1, _ => obtain rfl : v1 = v := Option.some.inj h; exact ⟨g1, h1, by cases g0 <;> cases g1 <;> rfl⟩
  | 2, _ => obtain rfl : v2 = v := Option.some.inj h; exact ⟨g2, h2, by cases g0 <;> cases g1 <;> cases g2 <;> rfl⟩
  | 3, _ => obtain rfl : v3 = v := Option.some.inj h; exact ⟨g3, h3, by cases g0 <;> cases g1 <;> cases g2 <;> cases g3 <;> rfl⟩
theorem corners {h₀ h : Heap} {L l p0 p1 p2 p3 : Addr} {lo : Obj} {c : Addr × Obj} {u0 u1 u2 u3 v : Value} {k0 k1 k2 k3 i : Nat} {news led : Led} {O P : Bx} (_N : News h₀ L h led) (e : led = (l, lo) :: (p3, tupOf [u0, u3] k3) :: (p2, tupOf [u2, u3] k2) :: (p1, tupOf [u2, u1] k1) :: (p0, tupOf [u0, u1] k0) :: c :: news)
    (d0 : IsDec news u0 P.l) (d1 : IsDec news u1 P.b) (d2 : IsDec news u2 P.r) (d3 : IsDec news u3 P.t) (h : #[.ref p0, .ref p1, .ref p2, .ref p3][i]? = some v) (hi : i < 4) :
    ∃ g, Corner O led v g ∧ up [inB O P.l P.b, inB O P.r P.b, inB O P.r P.t, inB O P.l P.t] (i + 1) = (up [inB O P.l P.b, inB O P.r P.b, inB O P.r P.t, inB O P.l P.t] i && g) := by
  have on {u : Value} {V : Int} (d : IsDec news u V) : IsDec led u V := by rw [e]; exact d.sub.sub.sub.sub.sub.sub
  refine corner_at ⟨p0, k0, u0, u1, _, _, rfl, ?_, on d0, on d1, rfl⟩ ⟨p1, k1, u2, u1, _, _, rfl, ?_, on d2, on d1, rfl⟩ ⟨p2, k2, u2, u3, _, _, rfl, ?_, on d2, on d3, rfl⟩ ⟨p3, k3, u0, u3, _, _, rfl, ?_, on d0, on d3, rfl⟩ h hi
  · rw [e]; exact .tail _ (.tail _ (.tail _ (.tail _ (.head _))))
  · rw [e]; exact .tail _ (.tail _ (.tail _ (.head _)))
  · rw [e]; exact .tail _ (.tail _ (.head _))
  · rw [e]; exact .tail _ (.head _)
theorem up_four {a b c d : Bool} : up [a, b, c, d] 4 = (a && b && c && d) := by cases a <;> cases b <;> cases c <;> cases d <;> rfl
/-- the list of the corners that lie outside, so far -/
def Outs (G : List Bool) (i : Nat) (ys : List Value) : Prop := (ys = [] ∧ up G i = true) ∨ (ys ≠ [] ∧ up G i = false)
theorem Outs.bad {G : List Bool} {i : Nat} {ys : List Value} {y : Value} {g : Bool} (e : up G (i + 1) = (up G i && g)) (hg : g = false) : Outs G (i + 1) (ys ++ [y]) := .inr ⟨by simp, by rw [e, hg, Bool.and_false]⟩
theorem Outs.good {G : List Bool} {i : Nat} {ys : List Value} {g : Bool} (h : Outs G i ys) (e : up G (i + 1) = (up G i && g)) (hg : g = true) : Outs G (i + 1) ys := by
  unfold Outs
  rw [e, hg, Bool.and_true]
  exact h
theorem lies_c {w : World} {news : Led} {v1 v2 : Value} {P O : Bx} (b1 : IsBox news v1 P) (b2 : IsBox news v2 O) :
    Ct w 12 249 [v1, v2] news (fun h₀ L m s Q => Ret0 h₀ L m news s Q fun r => r = .bool (liesB P O)) := by
  unfold Ct PG
  try k_fill
  intro mean mg mb dp un gd cn cs a ccd cl outer A₀ base h₀ L m s Q E B F X N T hk hd hu hret
  have b3 := b1
  obtain ⟨ha, d0, d1, d2, d3⟩ := b1
  refine wpAny_call ?_
  k_dflt (refine' code_defC ?k1 ?k2 ?k3 ?k4 ?k5 ?kA ?kF ?kK ?k6 ?k7 ?k8 ?k9 ?kB ?kD ?_ ?c2 ?c3 ?c4; (case kA => exact rfl); (case kF => exact rfl); (case kK => assumption); (case k1 => k_asm); (case k2 => k_asm); (case k3 => k_asm); (case k4 => k_asm); (case k5 => k_asm); (case k6 => k_is); (case k7 => k_is); (case k8 => ktr_room); (case k9 => exact BindsTo.of_eq rfl); (case kB => exact rfl); (case kD => decide +kernel); (case c2 => exact rfl); (case c3 => exact rfl); (case c4 => exact rfl); k_whole; intro g' L' h' tk' cells' FG' F' N' Y' B' X' T' l1; k_cells Y'; (try simp only [List.cons_append, List.nil_append] at N'); (try dsimp only); (try k_fold))
  k_steps
  unfold Hold
  rename News _ _ _ _ => N9
  refine comp_restT_J (n := 4) (Outs [inB O P.l P.b, inB O P.r P.b, inB O P.r P.t, inB O P.l P.t]) ?_ ?_ 4 0 [] (.inl ⟨rfl, rfl⟩) rfl
  · intro i9 v9 I9 oI9 C9 oC9 D9 m9 h9 tk9 E9 ys9 R1 R2 hP9 hi9 hJ9 hN9 hx9 F11 N11 o9 n9 hR1 hR2
    obtain ⟨g9, hc9, hu9⟩ := corners (O := O) (P := P) N9 rfl d0 d1 d2 d3 hP9 hi9
    obtain ⟨p9, k9, ux9, uy9, X9, Y9, rfl, hm9, dx9, dy9, hg9⟩ := hc9
    clear hP9
    k_steps
    · exact hR2 _ (Outs.good hJ9 hu9 (hg9.symm.trans (by assumption)))
    · exact hR1 _ (Outs.bad hu9 (hg9.symm.trans (by assumption)))
  · intro ys9 hJ9
    unfold LCg.FinE
    intro D9 h9 tk9 F11 N11 o9
    rcases hJ9 with ⟨rfl, hu9⟩ | ⟨hne9, hu9⟩ <;> rw [up_four] at hu9
    · k_steps
      exact hret _ _ _ (congrArg Value.bool hu9.symm) (by k_asm) (drop_led (by k_asm) (fun p hp => by repeat (first | exact hp | refine mem_tl ?_)))
    · k_steps
      exact hret _ _ _ (congrArg Value.bool hu9.symm) (by k_asm) (drop_led (by k_asm) (fun p hp => by repeat (first | exact hp | refine mem_tl ?_)))
section
variable {prog : Program} {w : World} {A : Around} {E : Value → Shared → Prop} {s : Shared} {h₀ : Heap} {L : Addr} {m : Str → Option Value} {env : Env}
/-- a tuple of the ledger as a comprehension's source -/
def TupSrc (prog : Program) (w : World) (A : Around) (h₀ : Heap) (L : Addr) (m : Str → Option Value) (env : Env) (elt : Expr) (x : Str) (scope : Scope) (cl : List (Str × Addr)) (Q : Value → Shared → Prop) (xv : Value) (s₁ : Shared) : Prop :=
  ∃ (ax : Addr) (its : List Value) (k : Nat) (news : Led), xv = .ref ax ∧ A.handled = none ∧ Fr h₀ L s₁.heap m ∧ News h₀ L s₁.heap news ∧ (ax, tupOf its k) ∈ news ∧ its.length ≤ sizeLine ∧
    ∀ g, LCg.CompRest prog w A h₀ L m env elt x scope cl { s₁ with heap := g } (fun nw => (ax, tupOf its k) ∈ nw) (fun i v => its.toArray[i]? = some v) (LCg.FinE h₀ L m { s₁ with heap := g } Q) its.toArray.size 0 [] news
theorem TupSrc.intro {elt : Expr} {x : Str} {scope : Scope} {cl : List (Str × Addr)} {Q : Value → Shared → Prop} {ax : Addr} {its : List Value} {k : Nat} {news : Led} {s₁ : Shared} (hh : A.handled = none) (F : Fr h₀ L s₁.heap m) (N : News h₀ L s₁.heap news) (hm : (ax, tupOf its k) ∈ news) (hsz : its.length ≤ sizeLine)
    (h : ∀ g, LCg.CompRest prog w A h₀ L m env elt x scope cl { s₁ with heap := g } (fun nw => (ax, tupOf its k) ∈ nw) (fun i v => its.toArray[i]? = some v) (LCg.FinE h₀ L m { s₁ with heap := g } Q) its.toArray.size 0 [] news) :
    TupSrc prog w A h₀ L m env elt x scope cl Q (.ref ax) s₁ := ⟨ax, its, k, news, rfl, hh, F, N, hm, hsz, h⟩
theorem comp_tup {elt iter : Expr} {x : Str} {px : Pos} {scope : Scope} {cl : List (Str × Addr)} {pos : Pos} {Q : Value → Shared → Prop} (F₀ : Fr h₀ L s.heap m)
    (hclos : closureFor scope env = pure cl) (hcell : ∀ y ∈ scope.names, y.2 ≠ .cell) (hkind : scope.kind = .function)
    (hnames : ∀ y ∈ scope.names, y.2 = .local → scope.names.lookup y.1 = some .local) (hx : scope.names.lookup x = some .local)
    (h : wpAny (model prog w) A (eval iter env) (TupSrc prog w A h₀ L m env elt x scope cl Q) E s)
    (hs : ∀ x, foldedSetIterable iter env x = pure x := by intro _; rfl) :
    wpAny (model prog w) A (eval (.ListComp elt [⟨.Name x px, iter, [], 0⟩] scope pos) env) Q E s := by
  rw [eval_ListComp]
  refine wpAny_comprehension_free (use := none) rfl hs hclos hkind hnames (wpAny_mono h (fun xv s₁ h₁ => ?_) fun _ _ e => e)
  obtain ⟨ax, its, k, news, rfl, hh, F, N, hm, hsz, R⟩ := h₁
  have ht : s₁.heap.IsTuple ax its.toArray := ⟨_, (N _ hm).1, rfl, k, rfl⟩
  have below : ax < s₁.heap.objs.size := Heap.lt_size (N _ hm).1
  refine wpAny_pyIter_tuple ht ?_
  have W := Walks.tuple (prog := prog) (w := w) hh s₁.heap.objs.size ax (Nat.ne_of_lt below) its.toArray
  have grows : ∀ b o, s₁.heap.get? b = some o → (s₁.heap.push { cls := .type "tuple_iterator", data := .fields #[.ref ax, .int 0 0] }).get? b = some o := fun _ _ e => Heap.get?_push_of_some _ e
  refine LCg.block_U W (by rw [List.size_toArray]; exact hsz) (fun i g st => ?_) (fun i g g' o nw st e e' _ Nw S => ?_) hcell hkind hx ⟨⟨_, Heap.get?_push_size _ rfl, rfl, rfl⟩, ht.push _⟩ (fun b hb => ?_) (F.keeps grows) (N.grown grows) (Nat.ne_of_lt F.ns.lt) (next_is_new F)
    (fun p hp => Nat.ne_of_lt (Heap.lt_size (N p hp).1)) hm (R _) ?_
  · obtain ⟨o, e, _⟩ := st.1
    exact ⟨o, e⟩
  · refine ⟨?_, ⟨_, (Nw _ S).1, rfl, k, rfl⟩⟩
    obtain ⟨o', q, r⟩ := st.1
    rw [e] at q
    cases q
    exact ⟨o, e', r⟩
  · rw [Heap.size_push]
    rcases List.mem_cons.mp hb with rfl | hb
    · exact Nat.lt_succ_self _
    · rw [List.mem_singleton.mp hb]
      exact Nat.lt_succ_of_lt below
  · intro D C g tk m' ys news' F' N' o1 hn hC₀ hD₀ hCL hDL hCD offC fin
    refine ⟨m', hn, fun g' hs' => fin D g' tk (F'.change hs' hCL hC₀) (fun p hp => ⟨hs'.extBut _ _ ?_ (N' p hp).1, (N' p hp).2⟩) o1⟩
    rcases List.mem_cons.mp hp with rfl | hp
    · exact Ne.symm hCD
    · exact offC p hp
end
theorem comp_end1 {h₀ : Heap} {L I C D : Addr} {m : Str → Option Value} {s₁ : Shared} {oI oC oD : Obj} {S : Led → Prop} {rest : Value → Led → Prop} {y : Value} {h' : Heap} {tk : Nat} {q : Addr × Obj} {news' : Led}
    (F : Fr h₀ L h' m) (N : News h₀ L h' (q :: (I, oI) :: (C, oC) :: (D, oD) :: news')) (hq : q.1 ≠ I ∧ q.1 ≠ C ∧ q.1 ≠ D) (off : LCg.Off3 I C D news') (hS : S (q :: news')) (r : rest y (q :: news')) :
    LCg.CompEnd h₀ L m s₁ I oI C oC D oD S rest y { s₁ with heap := h', toks := tk } :=
  LCg.CompEnd.intro F N (q :: news') (fun p hp => by simp only [List.mem_cons] at hp ⊢; rcases hp with h | h | h | h | h <;> simp [h]) ⟨hq, off⟩ hS r
theorem lines15 : True := by
  (k_with "m CompEnd" => (k_of "new" => (refine' comp_end1 ?zqF ?zqN ?zqq ?zqo ?zqS ?_; (case zqF => k_asm); (case zqN => k_asm); (case zqq => exact ⟨by k_ne, by k_ne, by k_ne⟩); (case zqo => first | assumption | lcg_off); (case zqS => k_mem))))
  (k_with "m eval ListComp" => (k_of "new" => (k_here; (with_reducible show wpAny _ _ (eval (PySem.Expr.ListComp (PySem.Expr.Call (PySem.Expr.Attribute _ _ _) _ _ _) _ _ _) _) _ _ _); k_dflt (refine comp_tup (F₀ := by k_asm) (by with_unfolding_all rfl) (by decide) (by rfl) (by decide) (by rfl) ?_))))
  (k_with "m TupSrc" => (k_of "new" => (k_here; k_dflt (refine' TupSrc.intro ?zqh ?zqF ?zqN ?zqm ?zqz ?_; (case zqh => rfl); (case zqF => k_asm); (case zqN => k_asm); (case zqm => k_mem); (case zqz => exact Nat.le_of_ble_eq_true rfl)); intro g'; lcg_lit)))
  exact trivial
/-- a call's own objects above the ledger -/
abbrev RetE (h₀ : Heap) (L : Addr) (m : Str → Option Value) (news : Led) (s : Shared) (Q : Value → Shared → Prop) (R : Led → Value → Prop) : Prop :=
  ∀ r es h' tk', R es r → Fr h₀ L h' m → News h₀ L h' (es ++ news) → Q r { s with heap := h', toks := tk' }
theorem RetE.six {h₀ : Heap} {L : Addr} {m : Str → Option Value} {news : Led} {s : Shared} {Q : Value → Shared → Prop} {R : Led → Value → Prop} (hret : RetE h₀ L m news s Q R) {q1 q2 q3 q4 q5 q6 : Addr × Obj} {r : Value} {h' : Heap} {tk' : Nat}
    (F : Fr h₀ L h' m) (N : News h₀ L h' (q1 :: q2 :: q3 :: q4 :: q5 :: q6 :: news)) (hR : R [q1, q2, q3, q4, q5, q6] r) : Q r { s with heap := h', toks := tk' } := hret r [q1, q2, q3, q4, q5, q6] h' tk' hR F N
inductive IsTold (es : Led) : Value → Bx → Prop
  | mk {a a0 a1 a2 a3 : Addr} {n k0 k1 k2 k3 : Nat} {n0 p0 n1 p1 n2 p2 n3 p3 : Int} {t0 u0 t1 u1 t2 u2 t3 u3 : Tok} {B : Bx} (ha : (a, tupOf [.ref a0, .ref a1, .ref a2, .ref a3] n) ∈ es)
    (h0 : (a0, tupOf [.int n0 t0, .int p0 u0] k0) ∈ es) (h1 : (a1, tupOf [.int n1 t1, .int p1 u1] k1) ∈ es) (h2 : (a2, tupOf [.int n2 t2, .int p2 u2] k2) ∈ es) (h3 : (a3, tupOf [.int n3 t3, .int p3 u3] k3) ∈ es)
    (r0 : Nrm n0 p0 B.l) (r1 : Nrm n1 p1 B.b) (r2 : Nrm n2 p2 B.r) (r3 : Nrm n3 p3 B.t) : IsTold es (.ref a) B
theorem told_c {w : World} {news : Led} {v : Value} {B : Bx} (b : IsBox news v B) :
    Ct w 8 237 [v] news (fun h₀ L m s Q => RetE h₀ L m news s Q fun es r => IsTold es r B) := by
  unfold Ct PG
  try k_fill
  intro mean mg mb dp un gd cn cs a ccd cl outer A₀ base h₀ L m s Q E B F X N T hk hd hu hret
  obtain ⟨ha, d0, d1, d2, d3⟩ := b
  obtain ⟨hx0, hd0, hn0⟩ := d0
  obtain ⟨hx1, hd1, hn1⟩ := d1
  obtain ⟨hx2, hd2, hn2⟩ := d2
  obtain ⟨hx3, hd3, hn3⟩ := d3
  refine wpAny_call ?_
  k_dflt ktr_enter
  k_steps
  refine' RetE.six hret ?F ?N ?e
  (case F => k_asm)
  (case N => k_asm)
  (case e => (refine' IsTold.mk ?ha ?h0 ?h1 ?h2 ?h3 ?r0 ?r1 ?r2 ?r3; (case ha => k_mem); (case h0 => k_mem); (case h1 => k_mem); (case h2 => k_mem); (case h3 => k_mem); (case r0 => assumption); (case r1 => assumption); (case r2 => assumption); (case r3 => assumption)))
theorem told_none_c {w : World} {news : Led} :
    Ct w 2 237 [.none] news (fun h₀ L m s Q => Ret0 h₀ L m news s Q fun r => r = .none) := by
  unfold Ct PG
  try k_fill
  intro mean mg mb dp un gd cn cs a ccd cl outer A₀ base h₀ L m s Q E B F X N T hk hd hu hret
  refine wpAny_call ?_
  k_dflt ktr_enter
  k_steps
  exact hret _ _ _ rfl (by k_asm) (by k_asm)
theorem lines16 : True := by
  (k_with "m call ref" => (k_of "new" => (k_here; k_dflt (refine' ct_use (told_c ?zqb) ?zqB ?zqF ?zqX ?zqN ?zqT ?zqk ?zqdd ?zquu ?_; ktn_open; (case zqb => ktr_rel)); intro r' es' h' tk' hr' F' N'; (try k_sweep); (try dsimp only); (try k_fold))))
  (k_with "m call ref" => (k_of "new" => (k_here; k_dflt (refine' ct_use told_none_c ?zqB ?zqF ?zqX ?zqN ?zqT ?zqk ?zqdd ?zquu ?_; ktn_open); intro r' h' tk' hr' F' N'; subst hr'; (try k_sweep); (try dsimp only); (try k_fold))))
  exact trivial
def bxEq (A B : Bx) : Bool := decide (A.l = B.l ∧ A.b = B.b ∧ A.r = B.r ∧ A.t = B.t)
theorem nrm_eq {n p V n' p' V' : Int} (h : Nrm n p V) (h' : Nrm n' p' V') : (n = n' ∧ p = p') ↔ V = V' := by
  rcases h with ⟨rfl, rfl, _⟩ | ⟨rfl, rfl, a, _⟩ <;> rcases h' with ⟨rfl, rfl, _⟩ | ⟨rfl, rfl, b, _⟩
  · exact ⟨fun e => congrArg (10 * ·) e.1, fun e => ⟨by omega, rfl⟩⟩
  · exact ⟨fun e => absurd e.2 (by decide), fun e => absurd (by rw [← e]; exact Int.mul_emod_right 10 n) b⟩
  · exact ⟨fun e => absurd e.2 (by decide), fun e => absurd (by rw [e]; exact Int.mul_emod_right 10 n') a⟩
  · exact ⟨fun e => e.1, fun e => ⟨e, rfl⟩⟩
abbrev toldD (n0 p0 n1 p1 n2 p2 n3 p3 : Int) : PyData := .tuple [.tuple [.int n0, .int p0], .tuple [.int n1, .int p1], .tuple [.int n2, .int p2], .tuple [.int n3, .int p3]]
theorem IsTold.reads {h₀ h : Heap} {L : Addr} {es led : Led} {v : Value} {B : Bx} (t : IsTold es v B) (N : News h₀ L h led) (sub : ∀ p ∈ es, p ∈ led) :
    ∃ as n0 p0 n1 p1 n2 p2 n3 p3, Reads h v (toldD n0 p0 n1 p1 n2 p2 n3 p3) as ∧ Nrm n0 p0 B.l ∧ Nrm n1 p1 B.b ∧ Nrm n2 p2 B.r ∧ Nrm n3 p3 B.t := by
  obtain ⟨ha, h0, h1, h2, h3, r0, r1, r2, r3⟩ := t
  have one : ∀ {a k n p t u}, (a, tupOf [.int n t, .int p u] k) ∈ es → ∃ as, Reads h (.ref a) (.tuple [.int n, .int p]) as := fun hm => ⟨_, reads_tuple_at (News.get N (sub _ hm)) rfl rfl (.cons (.int _ _) (.cons (.int _ _) .nil))⟩
  obtain ⟨b0, q0⟩ := one h0
  obtain ⟨b1, q1⟩ := one h1
  obtain ⟨b2, q2⟩ := one h2
  obtain ⟨b3, q3⟩ := one h3
  exact ⟨_, _, _, _, _, _, _, _, _, reads_tuple_at (News.get N (sub _ ha)) rfl rfl (.cons q0 (.cons q1 (.cons q2 (.cons q3 .nil)))), r0, r1, r2, r3⟩
theorem told_eqv {A B : Bx} {n0 p0 n1 p1 n2 p2 n3 p3 m0 q0 m1 q1 m2 q2 m3 q3 : Int} (a0 : Nrm n0 p0 A.l) (a1 : Nrm n1 p1 A.b) (a2 : Nrm n2 p2 A.r) (a3 : Nrm n3 p3 A.t) (b0 : Nrm m0 q0 B.l) (b1 : Nrm m1 q1 B.b) (b2 : Nrm m2 q2 B.r) (b3 : Nrm m3 q3 B.t) :
    PyData.eqv (toldD n0 p0 n1 p1 n2 p2 n3 p3) (toldD m0 q0 m1 q1 m2 q2 m3 q3) = bxEq A B := by
  unfold bxEq
  rw [Bool.eq_iff_iff, decide_eq_true_eq, ← nrm_eq a0 b0, ← nrm_eq a1 b1, ← nrm_eq a2 b2, ← nrm_eq a3 b3]
  simp [PyData.eqv, PyData.eqvAll]
section
variable {prog : Program} {w : World} {A : Around} {E Q : Value → Shared → Prop} {s : Shared} {h₀ : Heap} {L : Addr} {es1 es2 led : Led} {a b : Value} {B C : Bx}
theorem ne_told (N : News h₀ L s.heap led) (t1 : IsTold es1 a B) (t2 : IsTold es2 b C) (s1 : ∀ p ∈ es1, p ∈ led) (s2 : ∀ p ∈ es2, p ∈ led) (hu : A.units + 64 < cLine) (h : Q (.bool (!bxEq B C)) s) : wpAny (model prog w) A (compareOp .NotEq a b) Q E s := by
  obtain ⟨as, n0, p0, n1, p1, n2, p2, n3, p3, r, a0, a1, a2, a3⟩ := t1.reads N s1
  obtain ⟨bs, m0, q0, m1, q1, m2, q2, m3, q3, r', b0, b1, b2, b3⟩ := t2.reads N s2
  refine ne_dataH r r' rfl rfl hu ?_
  rw [told_eqv a0 a1 a2 a3 b0 b1 b2 b3]
  exact h
theorem eq_told (N : News h₀ L s.heap led) (t1 : IsTold es1 a B) (t2 : IsTold es2 b C) (s1 : ∀ p ∈ es1, p ∈ led) (s2 : ∀ p ∈ es2, p ∈ led) (hu : A.units + 64 < cLine) (h : Q (.bool (bxEq B C)) s) : wpAny (model prog w) A (compareOp .Eq a b) Q E s := by
  obtain ⟨as, n0, p0, n1, p1, n2, p2, n3, p3, r, a0, a1, a2, a3⟩ := t1.reads N s1
  obtain ⟨bs, m0, q0, m1, q1, m2, q2, m3, q3, r', b0, b1, b2, b3⟩ := t2.reads N s2
  refine eq_dataH r r' rfl rfl hu ?_
  rw [told_eqv a0 a1 a2 a3 b0 b1 b2 b3]
  exact h
end
def IsOpt (news : Led) (v : Value) (o : Option Bx) : Prop := match o with
  | none => v = .none
  | some B => IsBox news v B
theorem IsBox.app {es news : Led} {v : Value} {B : Bx} (h : IsBox news v B) : IsBox (es ++ news) v B := by
  induction es with
  | nil => exact h
  | cons q es ih => exact IsBox.sub ih
theorem IsOpt.sub {news : Led} {q : Addr × Obj} {v : Value} {o : Option Bx} (h : IsOpt news v o) : IsOpt (q :: news) v o := by
  cases o with
  | none => exact h
  | some B => exact IsBox.sub h
theorem IsOpt.app {es news : Led} {v : Value} {o : Option Bx} (h : IsOpt news v o) : IsOpt (es ++ news) v o := by
  cases o with
  | none => exact h
  | some B => exact IsBox.app h
def cm (P O : Bx) : Option Bx := if gapB P O then none else some (meetB P O)
def metO : Option Bx → Option Bx → Option Bx
  | some P, some O => cm P O
  | _, _ => none
abbrev RetO (h₀ : Heap) (L : Addr) (m : Str → Option Value) (news : Led) (s : Shared) (Q : Value → Shared → Prop) (o : Option Bx) : Prop :=
  ∀ r es h' tk', IsOpt (es ++ news) r o → Fr h₀ L h' m → News h₀ L h' (es ++ news) → Q r { s with heap := h', toks := tk' }
theorem commonO_c {w : World} {news : Led} {v1 v2 : Value} {P O : Bx} (b1 : IsBox news v1 P) (b2 : IsBox news v2 O) :
    Ct w 8 215 [v1, v2] news (fun h₀ L m s Q => RetO h₀ L m news s Q (cm P O)) := by
  intro mean mg mb dp un gd cn cs a ccd cl outer A₀ base h₀ L m s Q E B F X N T hk hd hu hret
  refine common_c b1 b2 mean mg mb dp un gd cn cs a ccd cl outer A₀ base h₀ L m s Q E B F X N T hk hd hu ⟨fun hg => ?_, fun hg => ?_⟩
  · intro r h' tk' hr F' N'
    refine hret r [] h' tk' ?_ F' N'
    unfold cm
    rw [if_pos hg]
    exact hr
  · intro a o h' tk' hb F' N' _
    refine hret (.ref a) [(a, o)] h' tk' ?_ F' N'
    unfold cm
    rw [if_neg (by rw [hg]; exact Bool.false_ne_true)]
    exact hb
/-- the told of a box or of none -/
def IsToldO (es : Led) (v : Value) (o : Option Bx) : Prop := match o with
  | none => v = .none
  | some B => IsTold es v B
theorem toldO_c {w : World} {news : Led} {v : Value} {o : Option Bx} (b : IsOpt news v o) :
    Ct w 8 237 [v] news (fun h₀ L m s Q => RetE h₀ L m news s Q fun es r => IsToldO es r o) := by
  intro mean mg mb dp un gd cn cs a ccd cl outer A₀ base h₀ L m s Q E B F X N T hk hd hu hret
  cases o with
  | none =>
    obtain rfl : v = .none := b
    exact told_none_c mean mg mb dp un gd cn cs a ccd cl outer A₀ base h₀ L m s Q E B F X N T hk (by omega) (by omega) fun r h' tk' hr F' N' => hret r [] h' tk' hr F' N'
  | some D => exact told_c (B := D) b mean mg mb dp un gd cn cs a ccd cl outer A₀ base h₀ L m s Q E B F X N T hk hd hu hret
def opEq : Option Bx → Option Bx → Bool
  | none, none => true
  | some P, some O => bxEq P O
  | _, _ => false
section
variable {prog : Program} {w : World} {A : Around} {E Q : Value → Shared → Prop} {s : Shared} {h₀ : Heap} {L : Addr} {es1 es2 led : Led} {a b : Value} {o p : Option Bx}
theorem ne_toldO (N : News h₀ L s.heap led) (t1 : IsToldO es1 a o) (t2 : IsToldO es2 b p) (s1 : ∀ q ∈ es1, q ∈ led) (s2 : ∀ q ∈ es2, q ∈ led) (hu : A.units + 64 < cLine) (h : Q (.bool (!opEq o p)) s) : wpAny (model prog w) A (compareOp .NotEq a b) Q E s := by
  cases o with
  | none =>
    obtain rfl : a = .none := t1
    cases p with
    | none =>
      obtain rfl : b = .none := t2
      exact ne_dataH Reads.none Reads.none rfl rfl hu h
    | some D =>
      obtain ⟨bs, m0, q0, m1, q1, m2, q2, m3, q3, r', _⟩ := IsTold.reads t2 N s2
      exact ne_dataH Reads.none r' rfl rfl hu h
  | some C => cases p with
    | none =>
      obtain rfl : b = .none := t2
      obtain ⟨bs, m0, q0, m1, q1, m2, q2, m3, q3, r', _⟩ := IsTold.reads t1 N s1
      exact ne_dataH r' Reads.none rfl rfl hu h
    | some D => exact ne_told N t1 t2 s1 s2 hu h
theorem eq_toldO (N : News h₀ L s.heap led) (t1 : IsToldO es1 a o) (t2 : IsToldO es2 b p) (s1 : ∀ q ∈ es1, q ∈ led) (s2 : ∀ q ∈ es2, q ∈ led) (hu : A.units + 64 < cLine) (h : Q (.bool (opEq o p)) s) : wpAny (model prog w) A (compareOp .Eq a b) Q E s := by
  cases o with
  | none =>
    obtain rfl : a = .none := t1
    cases p with
    | none =>
      obtain rfl : b = .none := t2
      exact eq_dataH Reads.none Reads.none rfl rfl hu h
    | some D =>
      obtain ⟨bs, m0, q0, m1, q1, m2, q2, m3, q3, r', _⟩ := IsTold.reads t2 N s2
      exact eq_dataH Reads.none r' rfl rfl hu h
  | some C => cases p with
    | none =>
      obtain rfl : b = .none := t2
      obtain ⟨bs, m0, q0, m1, q1, m2, q2, m3, q3, r', _⟩ := IsTold.reads t1 N s1
      exact eq_dataH r' Reads.none rfl rfl hu h
    | some D => exact eq_told N t1 t2 s1 s2 hu h
end
local macro_rules | `(tactic| ktr_rel) => `(tactic| first | assumption | (apply IsBox.app; ktr_rel) | (apply IsOpt.sub; ktr_rel) | (apply IsOpt.app; ktr_rel))
theorem lines17 : True := by
  (k_with "m call ref" => (k_of "new" => (k_here; k_dflt (refine' ct_use (commonO_c ?zqb1 ?zqb2) ?zqB ?zqF ?zqX ?zqN ?zqT ?zqk ?zqdd ?zquu ?_; ktn_open; (case zqb1 => ktr_rel); (case zqb2 => ktr_rel)); intro r' es' h' tk' hr' F' N'; (try k_sweep); (try dsimp only); (try k_fold))))
  exact trivial
theorem met_c {w : World} {news : Led} {v1 v2 : Value} {o p : Option Bx} (b1 : IsOpt news v1 o) (b2 : IsOpt news v2 p) :
    Ct w 10 244 [v1, v2] news (fun h₀ L m s Q => RetO h₀ L m news s Q (metO o p)) := by
  unfold Ct PG
  try k_fill
  intro mean mg mb dp un gd cn cs a ccd cl outer A₀ base h₀ L m s Q E B F X N T hk hd hu hret
  cases o with
  | none =>
    obtain rfl : v1 = .none := b1
    refine wpAny_call ?_
    k_dflt ktr_enter
    k_steps
    exact hret _ [] _ _ rfl (by k_asm) (by k_asm)
  | some C =>
    have b1' := b1
    obtain ⟨ha, d0, d1, d2, d3⟩ := b1'
    cases p with
    | none =>
      obtain rfl : v2 = .none := b2
      refine wpAny_call ?_
      k_dflt ktr_enter
      k_steps
      exact hret _ [] _ _ rfl (by k_asm) (by k_asm)
    | some D =>
      have b2' := b2
      obtain ⟨hb, e0, e1, e2, e3⟩ := b2'
      refine wpAny_call ?_
      k_dflt ktr_enter
      k_steps
      exact hret _ _ _ _ (by assumption) (by k_asm) (by k_asm)
theorem lines18 : True := by
  (k_with "m call ref" => (k_of "new" => (k_here; k_dflt (refine' ct_use (met_c ?zqb1 ?zqb2) ?zqB ?zqF ?zqX ?zqN ?zqT ?zqk ?zqdd ?zquu ?_; ktn_open; (case zqb1 => ktr_rel); (case zqb2 => ktr_rel)); intro r' es' h' tk' hr' F' N'; (try k_sweep); (try dsimp only); (try k_fold))))
  (k_with "m call ref" => (k_of "new" => (k_here; k_dflt (refine' ct_use (toldO_c ?zqb1) ?zqB ?zqF ?zqX ?zqN ?zqT ?zqk ?zqdd ?zquu ?_; ktn_open; (case zqb1 => ktr_rel)); intro r' es' h' tk' hr' F' N'; (try k_sweep); (try dsimp only); (try k_fold))))
  exact trivial
section
open LCg
theorem comp_rest_ints {prog : Program} {w : World} {A : Around} {h₀ : Heap} {L : Addr} {m : Str → Option Value} {env : Env} {elt : Expr} {x : Str} {scope : Scope} {cl : List (Str × Addr)} {s : Shared} {S : Led → Prop} {P : Nat → Value → Prop} {Fin : List Value → Led → Prop} {news : Led} {n : Nat}
    (hP : ∀ i v, P i v → ∃ k t, v = .int k t)
    (step : ∀ (k : Int) (t : Tok) (I : Addr) (oI : Obj) (C : Addr) (oC : Obj) (D : Addr) (m₂ : Str → Option Value) (h : Heap) (tk : Nat) (E' : Value → Shared → Prop) (ys : List Value) (R : Value → Led → Prop), NsObj oC m₂ → m₂ x = some (.int k t) → Fr h₀ L h m → News h₀ L h ((I, oI) :: (C, oC) :: (D, lst ys) :: news) →
      Off3 I C D news → ((@Ne Nat I C) ∧ (@Ne Nat I D) ∧ (@Ne Nat C D)) → (∀ k' t', R (.int k' t') news) → wpAny (model prog w) A (eval elt (compEnvC scope cl C env)) (CompEnd h₀ L m { s with heap := h, toks := tk } I oI C oC D (lst ys) S R) E' { s with heap := h, toks := tk })
    (fin : ∀ ys ms, IntsAre ys ms → ys.length = n → Fin ys news) : ∀ k i ys ms, IntsAre ys ms → ys.length = i → i + k = n → CompRest prog w A h₀ L m env elt x scope cl s S P Fin k i ys news := by
  intro k
  induction k with
  | zero => intro i ys ms hi hl e; exact CompRest.zero (fin ys ms hi (by omega))
  | succ k ih =>
    intro i ys ms hi hl e
    refine CompRest.succ fun v I oI C oC D m₂ h tk E' hv hC hx F N off ne => ?_
    obtain ⟨j, t, rfl⟩ := hP i v hv
    refine step j t I oI C oC D m₂ h tk E' ys _ hC hx F N off ne fun k' t' => ih (i + 1) (ys ++ [.int k' t']) (ms ++ [k']) ?_ (by rw [List.length_append, hl]; rfl) (by omega)
    exact hi.append (.cons k' t' .nil)
end
theorem lines19 : True := by
  (k_with "m eval ListComp" => (k_of "new" => (k_here; (with_reducible show wpAny _ _ (eval (PySem.Expr.ListComp (PySem.Expr.Call (PySem.Expr.Name _ _) _ _ _) _ _ _) _) _ _ _); k_dflt (refine LCg.ListComp_U (F₀ := by k_asm) (by with_unfolding_all rfl) (by decide) (by rfl) (by decide) (by rfl) ?_))))
  exact trivial
def PenOf (l1 : Addr) (ys : List Value) (spot g : Int) (o : Obj) : Prop := ∃ t u n, o = W.listOf [.ref l1, .int spot t, .int g u].toArray n
theorem pen_ret {news : Led} {h₀ : Heap} {L : Addr} {m : Str → Option Value} {s : Shared} {Q : Value → Shared → Prop}
    (hret : ∀ q l1 o ys h' tk', PenOf l1 ys 0 0 o → (∃ ms, IntsAre ys ms) → ys.length ≤ 63 → q ≠ l1 → Fr h₀ L h' m → News h₀ L h' ((q, o) :: (l1, LCg.lst ys) :: news) → Q (.ref q) { s with heap := h', toks := tk' })
    {q l1 : Addr} {t u : Tok} {n : Nat} {ys : List Value} {ms : List Int} {x : Addr × Obj} {h' : Heap} {tk' : Nat} (F : Fr h₀ L h' m) (N : News h₀ L h' ((q, W.listOf [.ref l1, .int 0 t, .int 0 u].toArray n) :: (l1, LCg.lst ys) :: x :: news)) (hi : IntsAre ys ms) (hl : ys.length ≤ 63) (hq : q ≠ l1) :
    Q (.ref q) { s with heap := h', toks := tk' } :=
  hret q l1 _ ys h' tk' ⟨_, _, _, rfl⟩ ⟨_, hi⟩ hl hq F (drop_led N fun p hp => by
    rcases List.mem_cons.mp hp with rfl | hp
    · exact mem_hd
    · rcases List.mem_cons.mp hp with rfl | hp
      · exact mem_tl mem_hd
      · exact mem_tl (mem_tl (mem_tl hp)))
theorem pen_c {w : World} {news : Led} {l : Addr} {vs : List Value} {ns : List Int} (hi : IntsAre vs ns) (hlen : ns.length ≤ 63) :
    Ct w 4 220 [.ref l] news (fun h₀ L m s Q => h₀.IsList l vs.toArray ∧ ∀ q l1 o ys h' tk', PenOf l1 ys 0 0 o → (∃ ms, IntsAre ys ms) → ys.length ≤ 63 → q ≠ l1 → Fr h₀ L h' m → News h₀ L h' ((q, o) :: (l1, LCg.lst ys) :: news) → Q (.ref q) { s with heap := h', toks := tk' }) := by
  unfold Ct PG
  try k_fill
  intro mean mg mb dp un gd cn cs a ccd cl outer A₀ base h₀ L m s Q E B F X N T hk hd hu hret
  obtain ⟨hL, hret⟩ := hret
  refine wpAny_call ?_
  k_dflt ktr_enter
  (have hL' := stays_list (Fr.keep (by assumption)) hL)
  k_steps
  rename List Value => ws9
  rename IntsAre ws9 _ => hw9
  have hz9 : ws9.toArray.size ≤ 63 := by
    rw [List.size_toArray, hw9.length]
    exact List.length_take_le _ _
  k_dflt (refine LCg.CompSrc.ledger (by rfl) (by k_asm) (by k_asm) (by k_mem) (by rw [sizeLine_eq]; omega) (fun g9 => ?_))
  refine comp_rest_ints (n := ws9.toArray.size) ?_ ?_ ?_ _ 0 [] [] .nil rfl (Nat.zero_add _)
  · intro i v hv
    rw [List.getElem?_toArray] at hv
    obtain ⟨k, t, e, _⟩ := hw9.at i v hv
    exact ⟨k, t, e⟩
  · intro k9 t9 I9 oI9 C9 oC9 D9 m9 h9 tk9 E9 ys9 R9 hN9 hx9 F9 N9 o9 n9 hR9
    k_steps
    exact hR9 _ _
  · intro ys9 ms9 hi9 hl9
    unfold LCg.FinE
    intro D9 h9 tk9 F9 N9 o9
    k_steps
    refine' pen_ret hret ?F ?N hi9 (by omega) ?q
    (case F => k_asm)
    (case N => k_asm)
    (case q => k_ne)
theorem fmod_in {x n : Int} (h : 0 < n) : 0 ≤ x.fmod n ∧ x.fmod n < n := ⟨Int.fmod_nonneg_of_pos x h, Int.fmod_lt_of_pos x h⟩
section
variable {prog : Program} {w : World} {A : Around} {E : Value → Shared → Prop} {s : Shared} {h₀ : Heap} {L q : Addr} {m : Str → Option Value} {rest : Led} {vs vs' : List Value} {n : Nat} {k : Int} {t : Tok} {v : Value}
theorem pen_set {Q : Unit → Shared → Prop} (F : Fr h₀ L s.heap m) (N : News h₀ L s.heap ((q, W.listOf vs.toArray n) :: rest)) (off : ∀ p ∈ rest, p.1 ≠ q) (h0 : 0 ≤ k) (hfit : k < 2 ^ 63) (hk : k.toNat < vs.length) (e : vs.set k.toNat v = vs')
    (h : ∀ h', Fr h₀ L h' m → News h₀ L h' ((q, W.listOf vs'.toArray n) :: rest) → Q () { s with heap := h' }) : wpAny (model prog w) A (setItem (.ref q) (.int k t) v) Q E s := by
  subst e
  have z := N _ (.head _)
  have hs : vs.toArray.size = vs.length := List.size_toArray ..
  refine ki_setAt z.1 h0 hfit (by omega) (h _ (F.change (Heap.SameBut.update ..) z.2.1 z.2.2) (ki_turn (pre := []) _ N (fun _ h => nomatch h) off ?_ ?_))
  · show vs.toArray.setIfInBounds k.toNat v = (vs.set k.toNat v).toArray
    apply Array.toList_inj.mp
    simp
  · simp
theorem sub_ints {value slice : Expr} {l : Addr} {ms : List Int} {news : Led} {j u : Int} {tk : Tok} {Q : Value → Shared → Prop} (N : News h₀ L s.heap news) (hm : (l, LCg.lst vs) ∈ news) (hi : IntsAre vs ms) (h0 : 0 ≤ j) (h1 : j < ms.length) (hl : ms.length ≤ 63)
    (h : ∀ c t, Q (.int c t) s) (hs : subscripted slice false (.ref l) (.int j tk) = operate [.ref l, .int j tk] (getItem (.ref l) (.int j tk)) := by with_unfolding_all rfl) :
    wpAny (model prog w) A (subscriptTail value slice (.ref l) (.int j tk)) Q E s := ksa_sub (n := vs.length) N hm hi h0 h1 (by omega) (fun t => h _ t) hs
theorem ne_nil {l l2 : Addr} {ms : List Int} {n2 : Nat} {news : Led} {Q : Value → Shared → Prop} (N : News h₀ L s.heap news) (ha : (l, LCg.lst vs) ∈ news) (hb : (l2, W.listOf ([] : List Value).toArray n2) ∈ news) (hi : IntsAre vs ms) (hu : A.units + 64 < cLine) (h : Q (.bool (decide (0 < vs.length))) s) :
    wpAny (model prog w) A (compareOp .NotEq (.ref l) (.ref l2)) Q E s := by
  refine ke_ne_ints ⟨_, (N _ ha).1, rfl, _, rfl⟩ ⟨_, (N _ hb).1, rfl, n2, rfl⟩ hi .nil hu ?_
  have e : (!decide (ms = [])) = decide (0 < vs.length) := by
    rw [hi.length]
    cases ms <;> simp
  rw [e]
  exact h
theorem len_lst {l : Addr} {news : Led} {Q : Value → Shared → Prop} (N : News h₀ L s.heap news) (ha : (l, LCg.lst vs) ∈ news) (hl : vs.length ≤ 63) (h : Q (.int (vs.length : Int) (s.toks + 1)) { s with toks := s.toks + 1 + 1 }) :
    wpAny (model prog w) A (call (.builtin "len") [.ref l]) Q E s := by
  have hz : vs.toArray.size = vs.length := List.size_toArray ..
  refine len_list ⟨_, (N _ ha).1, rfl, _, rfl⟩ (by omega) ?_
  rw [hz]
  exact h
theorem mod_any {a n : Int} {t u : Tok} {Q : Value → Shared → Prop} (hn : 0 < n) (h : ∀ r, 0 ≤ r → r < n → Q (.int r s.toks) { s with toks := s.toks + 1 }) : wpAny (model prog w) A (binaryOp .Mod (.int a t) (.int n u)) Q E s :=
  mod_int' (by omega) (h _ (fmod_in hn).1 (fmod_in hn).2)
theorem mul_any {a b : Int} {t u : Tok} {Q : Value → Shared → Prop} (ha : 0 ≤ a) (ha' : a ≤ 4294967296) (hb : 0 ≤ b) (hb' : b ≤ 1048576) (h : ∀ c, 0 ≤ c → c ≤ 4503599627370496 → Q (.int c s.toks) { s with toks := s.toks + 1 }) :
    wpAny (model prog w) A (binaryOp .Mult (.int a t) (.int b u)) Q E s :=
  mul_int (h _ (Int.mul_nonneg ha hb) (Int.le_trans (Int.mul_le_mul ha' hb' hb (by decide)) (by decide))) (IntMulOk.of_left (intBits_le_64 (by omega) (by omega)))
theorem pow_any {a n : Int} {t u : Tok} {Q : Value → Shared → Prop} (h0 : 0 ≤ a) (h1 : a < 9223372036854775808) (hn : (decide (0 ≤ n) && decide (n ≤ 1000000)) = true) (h : ∀ r, Q (.int r s.toks) { s with toks := s.toks + 1 }) :
    wpAny (model prog w) A (binaryOp .Pow (.int a t) (.int n u)) Q E s := by
  simp only [Bool.and_eq_true, decide_eq_true_eq] at hn
  exact pow_int_small hn.1 hn.2 (by omega) (h _)
end
theorem lines20 : True := by
  (k_with "m binaryOp Mod int int" => (k_of "new" => (k_here; refine mod_any (by omega) ?_; intro r' hr0' hr1')))
  (k_with "m binaryOp Pow int int" => (k_of "new" => (k_here; refine pow_any (by omega) (by omega) (by decide) ?_; intro r')))
  (k_with "m binaryOp Mult int int" => (k_of "new" => (k_here; (fail_if_success (with_reducible show wpAny _ _ (binaryOp _ (Value.int (OfNat.ofNat _) _) _) _ _ _)); (fail_if_success (with_reducible show wpAny _ _ (binaryOp _ _ (Value.int (OfNat.ofNat _) _)) _ _ _)); refine mul_any (by omega) (by omega) (by omega) (by omega) ?_; intro r' hr0' hr1')))
  (k_with "m compareOp NotEq ref ref" => (k_of "new" => (k_here; k_dflt (refine' ne_nil ?zqN ?zqa ?zqb ?zqi ?zqu ?_; (case zqN => k_asm); (case zqa => k_mem); (case zqb => k_mem); (case zqi => assumption); (case zqu => ktr_units)); (rename News _ _ _ _ => nE'); (have nF' := drop_led nE' (fun p hp => mem_tl hp)); clear nE')))
  (k_with "m setItem ref int" => (k_of "new" => (k_here; k_dflt (refine' pen_set ?zqF ?zqN ?zqo ?zqa ?zqb ?zqc ?zqe ?_; (case zqF => k_asm); (case zqN => k_asm); (case zqo => assumption); (case zqa => decide); (case zqb => decide); (case zqc => exact Nat.le_of_ble_eq_true rfl); (case zqe => exact rfl)); intro h' F' N'; (try k_sweep))))
  (k_with "m call builtin:len" => (k_of "new" => (k_here; k_dflt (refine' len_lst ?zqN ?zqa ?zqz ?_; (case zqN => k_asm); (case zqa => k_mem); (case zqz => assumption)))))
  (k_with "m subscriptTail" => (k_of "new" => (k_here; (with_reducible show wpAny _ _ (subscriptTail _ _ (Value.ref _) (Value.int _ _)) _ _ _); (fail_if_success (with_reducible show wpAny _ _ (subscriptTail _ _ (Value.ref _) (Value.int (OfNat.ofNat _) _)) _ _ _)); k_dflt (refine' sub_ints ?zqN ?zqm ?zqi ?zqa ?zqb ?zql ?_; (case zqN => k_asm); (case zqm => k_mem); (case zqi => assumption); (case zqa => assumption); (case zqb => omega); (case zql => omega)); intro c' t')))
  exact trivial
/-- behind an if that may turn the name cell alone, or return -/
def CellPost (h₀ : Heap) (L : Addr) (s : Shared) (led : Led) (m : Str → Option Value) (Q : Flow → Shared → Prop) (f : Flow) (s' : Shared) : Prop :=
  match f with
  | .ret v => Q (.ret v) s'
  | .next => ∃ c t h' tk', s' = { s with heap := h', toks := tk' } ∧ Fr h₀ L h' (fun y => if y = Str.ofString "cell" then some (.int c t) else m y) ∧ News h₀ L h' led
  | _ => False
theorem CellPost.next {h₀ h' : Heap} {L : Addr} {s : Shared} {led led' : Led} {m m' : Str → Option Value} {Q : Flow → Shared → Prop} {c : Int} {t : Tok} {tk' : Nat} (F : Fr h₀ L h' m') (N : News h₀ L h' led') (sub : ∀ p ∈ led, p ∈ led') (hc : m' (Str.ofString "cell") = some (.int c t))
    (ho : ∀ y, y ≠ Str.ofString "cell" → m' y = m y) : CellPost h₀ L s led m Q .next { s with heap := h', toks := tk' } := by
  refine ⟨c, t, h', tk', rfl, ?_, drop_led N sub⟩
  have e : m' = fun y => if y = Str.ofString "cell" then some (.int c t) else m y := by
    funext y
    by_cases h : y = Str.ofString "cell"
    · rw [if_pos h, h, hc]
    · rw [if_neg h, ho y h]
  rw [← e]
  exact F
section
variable {prog : Program} {w : World} {A : Around} {E : Value → Shared → Prop} {s : Shared} {h₀ : Heap} {m : Str → Option Value} {led : Led}
theorem if_cell {test : Expr} {body orelse : List Stmt} {pos : Pos} {env : Env} {Q : Flow → Shared → Prop} {c : Int} {t : Tok} (F : Fr h₀ env.locals s.heap m) (N : News h₀ env.locals s.heap led) (_hm : m (Str.ofString "cell") = some (.int c t))
    (h : wpAny (model prog w) A (isTrue test env (eval test env)) (fun b s₂ => if b then wpAny (model prog w) A (execs body env) (CellPost h₀ env.locals s led m Q) E s₂ else wpAny (model prog w) A (execs orelse env) (CellPost h₀ env.locals s led m Q) E s₂) E s)
    (k : ∀ (c : Int) (t : Tok) (h' : Heap) (tk' : Nat), Fr h₀ env.locals h' (fun y => if y = Str.ofString "cell" then some (.int c t) else m y) → News h₀ env.locals h' led → Q .next { s with heap := h', toks := tk' }) :
    wpAny (model prog w) A (exec (.If test body orelse pos) env) Q E s := by
  have go : ∀ f s', CellPost h₀ env.locals s led m Q f s' → Q f s' := by
    intro f s' x
    cases f with
    | ret v => exact x
    | next =>
      obtain ⟨c, t, h', tk', rfl, F', N'⟩ := x
      exact k c t h' tk' F' N'
    | brk => exact x.elim
    | cont => exact x.elim
  refine wpAny_If (wpAny_mono h (fun b s₂ x => ?_) fun _ _ e => e)
  split
  · rw [if_pos (by assumption)] at x
    exact wpAny_mono x (fun f s₃ y => go f s₃ y) fun _ _ e => e
  · rw [if_neg (by assumption)] at x
    exact wpAny_mono x (fun f s₃ y => go f s₃ y) fun _ _ e => e
end
theorem lines21 : True := by
  (k_with "m exec If" => (k_of "new" => (k_here; (rename Fr _ _ _ _ => lF'); k_dflt (refine' if_cell lF' ?zqN ?zqm ?_ ?zqkk; (case zqN => k_asm); (case zqm => exact rfl)); (case' zqkk => (intro c' t' h' tk' F' N'; (try k_sweep); (try dsimp only))))))
  (k_with "m CellPost" => (k_of "new" => first
  | (k_dflt (refine' CellPost.next ?zqF ?zqN ?zqs ?zqc ?zqo; (case zqF => k_asm); (case zqN => k_asm); (case zqs => (intro p9 h9; repeat (first | exact h9 | refine mem_tl ?_))); (case zqc => exact rfl); (case zqo => (intro y9 h9; simp only [h9, if_false]))))
  | (dsimp only [CellPost])))
  exact trivial
theorem pen_back {news : Led} {h₀ : Heap} {L q l1 : Addr} {m : Str → Option Value} {s : Shared} {Q : Value → Shared → Prop} {ys : List Value} {spot many : Int}
    (hret : ∀ d t o' spot' g' h' tk', 0 ≤ d → d < many → PenOf l1 ys spot' g' o' → 0 ≤ spot' → spot' ≤ spot + 1 → Fr h₀ L h' m → News h₀ L h' ((q, o') :: (l1, LCg.lst ys) :: news) → Q (.int d t) { s with heap := h', toks := tk' })
    {d spot' g' : Int} {t t1 t2 : Tok} {n : Nat} {h' : Heap} {tk' : Nat} (h0 : 0 ≤ d) (h1 : d < many) (F : Fr h₀ L h' m) (N : News h₀ L h' ((q, W.listOf [.ref l1, .int spot' t1, .int g' t2].toArray n) :: (l1, LCg.lst ys) :: news)) (hs0 : 0 ≤ spot') (hs1 : spot' ≤ spot + 1) :
    Q (.int d t) { s with heap := h', toks := tk' } := hret d t _ spot' g' h' tk' h0 h1 ⟨_, _, _, rfl⟩ hs0 hs1 F N
theorem draw_c {w : World} {news : Led} {q l1 : Addr} {ys : List Value} {ms : List Int} {spot g many : Int} {o : Obj} {tk : Tok} (hm : many = 9 ∨ many = 2) (hi : IntsAre ys ms) (hl : ys.length ≤ 63) (hs0 : 0 ≤ spot) (hs1 : spot < 1000) (ho : PenOf l1 ys spot g o) (hne : q ≠ l1) (hoff : ∀ p ∈ news, p.1 ≠ q) :
    Ct w 12 227 [.ref q, .int many tk] ((q, o) :: (l1, LCg.lst ys) :: news) (fun h₀ L m s Q => ∀ d t o' spot' g' h' tk', 0 ≤ d → d < many → PenOf l1 ys spot' g' o' → 0 ≤ spot' → spot' ≤ spot + 1 → Fr h₀ L h' m → News h₀ L h' ((q, o') :: (l1, LCg.lst ys) :: news) → Q (.int d t) { s with heap := h', toks := tk' }) := by
  unfold Ct PG
  try k_fill
  intro mean mg mb dp un gd cn cs a ccd cl outer A₀ base h₀ L m s Q E B F X N T hk hd hu hret
  obtain ⟨t, u, n, rfl⟩ := ho
  have hm0 : many ≠ 0 := by omega
  refine wpAny_call ?_
  k_dflt ktr_enter
  have hyl : ys.length = ms.length := hi.length
  have hoff' : ∀ p ∈ (l1, LCg.lst ys) :: news, p.1 ≠ q := List.forall_mem_cons.mpr ⟨Ne.symm hne, hoff⟩
  k_steps
  all_goals (refine' pen_back hret (by assumption) (by assumption) ?F ?N ?a ?b; (case F => k_asm); (case N => k_asm); (case a => omega); (case b => omega))
theorem lines22 : True := by
  (k_with "m call ref" => (k_of "new" => (k_here; k_dflt (refine' ct_use (draw_c ?zqm ?zqi ?zql ?zqs0 ?zqs1 ?zqo ?zqn ?zqoff) ?zqB ?zqF ?zqX ?zqN ?zqT ?zqk ?zqdd ?zquu ?_; ktn_open; (case zqm => decide); (case zqo => assumption); (case zqi => assumption); (case zql => assumption); (case zqs0 => omega); (case zqs1 => omega); (case zqn => assumption); (case zqoff => assumption)); intro d' t' o' spot' g' h' tk' hd0' hd1' ho' hp0' hp1' F' N'; (try k_sweep); (try dsimp only); (try k_fold))))
  exact trivial
theorem decimalV_c {w : World} {news : Led} {n p : Int} {t u : Tok} (h0 : 0 ≤ p) (h2 : p < 2) (hb1 : -100 ≤ n) (hb2 : n ≤ 100) :
    Ct w 4 143 [.int n t, .int p u] news (fun h₀ L m s Q => ∀ x h' tk' dx o, (∀ nw, IsDec ((x, instObj 143 dx) :: (dx, o) :: nw) (.ref x) (if p = 0 then 10 * n else n)) → Fr h₀ L h' m → News h₀ L h' ((x, instObj 143 dx) :: (dx, o) :: news) → AllLt dx news → dx < x → Q (.ref x) { s with heap := h', toks := tk' }) :=
  decimal_c (by split <;> omega) hb1 hb2
theorem lines23 : True := by
  (k_with "m call ref" => (k_of "new" => (k_here; k_dflt (refine' ct_use (decimalV_c ?zqp0 ?zqp1 ?zqb1 ?zqb2) ?zqB ?zqF ?zqX ?zqN ?zqT ?zqk ?zqdd ?zquu ?_; ktn_open; (case zqp0 => omega); (case zqp1 => omega); (case zqb1 => omega); (case zqb2 => omega)); intro x' h' tk' dx' o' hd' F' N' l1 l2; (try k_sweep); (try dsimp only); (try k_fold))))
  exact trivial
structure BxOk (B : Bx) : Prop where
  lr : B.l ≤ B.r
  bt : B.b ≤ B.t
  l0 : -200 ≤ B.l
  b0 : -200 ≤ B.b
  r0 : B.r ≤ 200
  t0 : B.t ≤ 200
open LCg in
theorem comp_rest_J {prog : Program} {w : World} {A : Around} {h₀ : Heap} {L : Addr} {m : Str → Option Value} {env : Env} {elt : Expr} {x : Str} {scope : Scope} {cl : List (Str × Addr)} {s : Shared} {S : Led → Prop} {P : Nat → Value → Prop} {Fin : List Value → Led → Prop} {n : Nat} (J : Nat → List Value → Led → Prop)
    (step : ∀ (i : Nat) (v : Value) (I : Addr) (oI : Obj) (C : Addr) (oC : Obj) (D : Addr) (m₂ : Str → Option Value) (h : Heap) (tk : Nat) (E' : Value → Shared → Prop) (ys : List Value) (news : Led) (R : Value → Led → Prop), P i v → i < n → J i ys news → NsObj oC m₂ → m₂ x = some v → Fr h₀ L h m → News h₀ L h ((I, oI) :: (C, oC) :: (D, lst ys) :: news) →
      Off3 I C D news → ((@Ne Nat I C) ∧ (@Ne Nat I D) ∧ (@Ne Nat C D)) → (∀ y news', J (i + 1) (ys ++ [y]) news' → R y news') → wpAny (model prog w) A (eval elt (compEnvC scope cl C env)) (CompEnd h₀ L m { s with heap := h, toks := tk } I oI C oC D (lst ys) S R) E' { s with heap := h, toks := tk })
    (fin : ∀ ys news, J n ys news → Fin ys news) : ∀ k i ys news, J i ys news → i + k = n → CompRest prog w A h₀ L m env elt x scope cl s S P Fin k i ys news := by
  intro k
  induction k with
  | zero =>
    intro i ys news hj e
    have e' : i = n := e
    subst e'
    exact CompRest.zero (fin ys news hj)
  | succ k ih =>
    intro i ys news hj e
    refine CompRest.succ fun v I oI C oC D m₂ h tk E' hv hC hx F N off ne => ?_
    exact step i v I oI C oC D m₂ h tk E' ys news _ hv (by omega) hj hC hx F N off ne fun y news' hj' => ih (i + 1) (ys ++ [y]) news' hj' (by omega)

theorem IsDec.app {es news : Led} {v : Value} {V : Int} (h : IsDec news v V) : IsDec (es ++ news) v V := by
  induction es with
  | nil => exact h
  | cons q es ih => exact IsDec.sub ih
def AllDec (led : Led) : List Value → Prop
  | [] => True
  | v :: r => (∃ V, IsDec led v V ∧ -200 ≤ V ∧ V ≤ 200) ∧ AllDec led r
theorem AllDec.sub {led : Led} {p : Addr × Obj} : ∀ {ys : List Value}, AllDec led ys → AllDec (p :: led) ys
  | [], _ => trivial
  | _ :: _, ⟨⟨V, h, b⟩, r⟩ => ⟨⟨V, h.sub, b⟩, r.sub⟩
theorem AllDec.snoc {led : Led} {y : Value} {V : Int} (h : IsDec led y V) (b : -200 ≤ V ∧ V ≤ 200) : ∀ {ys : List Value}, AllDec led ys → AllDec led (ys ++ [y])
  | [], _ => ⟨⟨V, h, b⟩, trivial⟩
  | _ :: _, ⟨q, r⟩ => ⟨q, AllDec.snoc h b r⟩
/-- what holds between the turns: the pen first, then what the turns made, the Decimals so far -/
def PenJ (q l1 : Addr) (ys0 : List Value) (base : Led) (spot₀ : Int) (i : Nat) (ys : List Value) (news : Led) : Prop :=
  ∃ es o spot g, news = (q, o) :: (l1, LCg.lst ys0) :: (es ++ base) ∧ PenOf l1 ys0 spot g o ∧ 0 ≤ spot ∧ spot ≤ spot₀ + 2 * i ∧ (∀ p ∈ es ++ base, p.1 ≠ q) ∧ AllDec (es ++ base) ys ∧ ys.length = i
theorem led_rot {h₀ h : Heap} {L : Addr} {a b c : Addr × Obj} {rest : Led} (N : News h₀ L h (c :: a :: b :: rest)) : News h₀ L h (a :: b :: ([] ++ (c :: rest))) :=
  drop_led N fun p hp => by simp only [List.nil_append, List.mem_cons] at hp ⊢; rcases hp with h | h | h | h <;> simp [h]
theorem led_rot3 {h₀ h : Heap} {L : Addr} {a b c d e : Addr × Obj} {rest : Led} (N : News h₀ L h (c :: d :: e :: a :: b :: rest)) : News h₀ L h (a :: b :: (c :: d :: e :: rest)) :=
  drop_led N fun p hp => by simp only [List.mem_cons] at hp ⊢; rcases hp with h | h | h | h | h | h <;> simp [h]
theorem base_mem {h₀ h : Heap} {L : Addr} {a b c d e x : Addr × Obj} {es rest : Led} (_N : News h₀ L h (a :: b :: c :: d :: e :: (es ++ x :: rest))) : x ∈ es ++ x :: rest := List.mem_append.mpr (.inr (.head _))
theorem off3_led {I C D q l1 : Addr} {oI oC oD o o1 : Obj} {rest : Led} (h : LCg.Off3 I C D ((q, o) :: (l1, o1) :: rest)) (hr : ∀ p ∈ rest, p.1 ≠ q) : ∀ p ∈ (I, oI) :: (C, oC) :: (D, oD) :: rest, p.1 ≠ q := by
  obtain ⟨⟨a, b, c⟩, _⟩ := h
  exact List.forall_mem_cons.mpr ⟨Ne.symm a, List.forall_mem_cons.mpr ⟨Ne.symm b, List.forall_mem_cons.mpr ⟨Ne.symm c, hr⟩⟩⟩
open LCg in
theorem dec_end {h₀ h' : Heap} {L I C D q l1 x dx : Addr} {m : Str → Option Value} {s₁ : Shared} {oI oC oq o2 odx : Obj} {ys0 ys9 : List Value} {R : Value → Led → Prop} {tk i : Nat} {V spot₀ spot' g' : Int} {es base : Led}
    (F : Fr h₀ L h' m) (N : News h₀ L h' ((x, instObj 143 dx) :: (dx, odx) :: (q, oq) :: (l1, lst ys0) :: (I, oI) :: (C, oC) :: (D, lst ys9) :: (es ++ base))) (o9 : Off3 I C D ((q, o2) :: (l1, lst ys0) :: (es ++ base)))
    (hd : ∀ nw, IsDec ((x, instObj 143 dx) :: (dx, odx) :: nw) (.ref x) V) (hV : -200 ≤ V ∧ V ≤ 200) (lt : AllLt dx ((q, oq) :: (l1, lst ys0) :: (I, oI) :: (C, oC) :: (D, lst ys9) :: (es ++ base))) (l2 : @LT.lt Nat _ dx x)
    (ho : PenOf l1 ys0 spot' g' oq) (hp0 : 0 ≤ spot') (hp1 : spot' ≤ spot₀ + 2 * ((i + 1 : Nat) : Int)) (hoff : ∀ p ∈ es ++ base, p.1 ≠ q) (hdec : AllDec (es ++ base) ys9) (hlen : ys9.length = i)
    (hR : ∀ y news', PenJ q l1 ys0 base spot₀ (i + 1) (ys9 ++ [y]) news' → R y news') :
    CompEnd h₀ L m s₁ I oI C oC D (lst ys9) (fun _ => True) R (.ref x) { s₁ with heap := h', toks := tk } := by
  obtain ⟨e1, e2, e3, e4, e5, _⟩ := lt
  have e1' : @LT.lt Nat _ q dx := e1
  have e3' : @LT.lt Nat _ I dx := e3
  have e4' : @LT.lt Nat _ C dx := e4
  have e5' : @LT.lt Nat _ D dx := e5
  obtain ⟨a1, a2, a3⟩ := o9
  refine CompEnd.intro F N ((q, oq) :: (l1, lst ys0) :: ((x, instObj 143 dx) :: (dx, odx) :: es ++ base)) (fun p hp => ?_) ⟨a1, a2, ⟨neN (by dsimp only; omega), neN (by dsimp only; omega), neN (by dsimp only; omega)⟩, ⟨neN (by dsimp only; omega), neN (by dsimp only; omega), neN (by dsimp only; omega)⟩, a3⟩ trivial
    (hR _ _ ⟨(x, instObj 143 dx) :: (dx, odx) :: es, oq, spot', g', rfl, ho, hp0, hp1, ?_, AllDec.snoc (hd _) hV hdec.sub.sub, by rw [List.length_append, hlen]; rfl⟩)
  · simp only [List.cons_append, List.mem_cons] at hp ⊢
    rcases hp with h | h | h | h | h | h | h | h <;> simp [h]
  · exact List.forall_mem_cons.mpr ⟨neN (by dsimp only; omega), List.forall_mem_cons.mpr ⟨neN (by dsimp only; omega), hoff⟩⟩
theorem allDec4 {led : Led} {ys : List Value} (h : AllDec led ys) (hl : ys.length = 4) : ∃ v0 v1 v2 v3 V0 V1 V2 V3, ys = [v0, v1, v2, v3] ∧ IsDec led v0 V0 ∧ IsDec led v1 V1 ∧ IsDec led v2 V2 ∧ IsDec led v3 V3 ∧ (-200 ≤ V0 ∧ V0 ≤ 200) ∧ (-200 ≤ V1 ∧ V1 ≤ 200) ∧ (-200 ≤ V2 ∧ V2 ≤ 200) ∧ (-200 ≤ V3 ∧ V3 ≤ 200) := by
  rcases ys with _ | ⟨v0, _ | ⟨v1, _ | ⟨v2, _ | ⟨v3, _ | ⟨v4, r⟩⟩⟩⟩⟩
  · exact absurd hl (by decide)
  · exact absurd hl (Nat.ne_of_beq_eq_false rfl)
  · exact absurd hl (Nat.ne_of_beq_eq_false rfl)
  · exact absurd hl (Nat.ne_of_beq_eq_false rfl)
  · obtain ⟨⟨V0, h0, b0⟩, ⟨V1, h1, b1⟩, ⟨V2, h2, b2⟩, ⟨V3, h3, b3⟩, _⟩ := h
    exact ⟨v0, v1, v2, v3, V0, V1, V2, V3, rfl, h0, h1, h2, h3, b0, b1, b2, b3⟩
  · simp only [List.length_cons] at hl
    omega
theorem drawn_ret {news : Led} {h₀ : Heap} {L q l1 : Addr} {m : Str → Option Value} {s : Shared} {Q : Value → Shared → Prop} {ys : List Value} {spot : Int}
    (hret : ∀ a es o' spot' g' B h' tk', BxOk B → IsBox (es ++ news) (.ref a) B → PenOf l1 ys spot' g' o' → 0 ≤ spot' → spot' ≤ spot + 8 → (∀ p ∈ es ++ news, p.1 ≠ q) → Fr h₀ L h' m → News h₀ L h' ((q, o') :: (l1, LCg.lst ys) :: (es ++ news)) → Q (.ref a) { s with heap := h', toks := tk' })
    {a : Addr} {ob oq : Obj} {c x : Addr × Obj} {es : Led} {v0 v1 v2 v3 : Value} {V0 V1 V2 V3 spot' g' : Int} {h' : Heap} {tk' : Nat} (F : Fr h₀ L h' m) (N : News h₀ L h' ((a, ob) :: x :: (q, oq) :: (l1, LCg.lst ys) :: (es ++ c :: news))) (hb : BoxOf v0 v1 v2 v3 V0 V1 V2 V3 a ob)
    (d0 : IsDec (es ++ c :: news) v0 V0) (d1 : IsDec (es ++ c :: news) v1 V1) (d2 : IsDec (es ++ c :: news) v2 V2) (d3 : IsDec (es ++ c :: news) v3 V3) (c0 : -200 ≤ V0 ∧ V0 ≤ 200) (c1 : -200 ≤ V1 ∧ V1 ≤ 200) (c2 : -200 ≤ V2 ∧ V2 ≤ 200) (c3 : -200 ≤ V3 ∧ V3 ≤ 200)
    (lt : @LT.lt Nat _ q a) (hoff : ∀ p ∈ es ++ c :: news, p.1 ≠ q) (ho : PenOf l1 ys spot' g' oq) (hp0 : 0 ≤ spot') (hp1 : spot' ≤ spot + 8) : Q (.ref a) { s with heap := h', toks := tk' } := by
  have e : ((a, ob) :: (es ++ [c])) ++ news = (a, ob) :: (es ++ c :: news) := by simp
  refine hret a ((a, ob) :: (es ++ [c])) oq spot' g' ⟨min V0 V2, min V1 V3, max V0 V2, max V1 V3⟩ h' tk' ⟨by dsimp only; omega, by dsimp only; omega, by dsimp only; omega, by dsimp only; omega, by dsimp only; omega, by dsimp only; omega⟩ ?_ ho hp0 hp1 ?_ F ?_
  · rw [e]
    exact hb.box (.head _) d0.sub d1.sub d2.sub d3.sub
  · rw [e]
    exact List.forall_mem_cons.mpr ⟨neN (by dsimp only; omega), hoff⟩
  · rw [e]
    exact drop_led N fun p hp => by simp only [List.mem_cons] at hp ⊢; rcases hp with h | h | h | h <;> simp [h]
theorem drawn_c {w : World} {news : Led} {q l1 : Addr} {ys : List Value} {ms : List Int} {spot g : Int} {o : Obj} (hi : IntsAre ys ms) (hl : ys.length ≤ 63) (hs0 : 0 ≤ spot) (hs1 : spot ≤ 500) (ho : PenOf l1 ys spot g o) (hne : q ≠ l1) (hoff : ∀ p ∈ news, p.1 ≠ q) :
    Ct w 24 232 [.ref q] ((q, o) :: (l1, LCg.lst ys) :: news) (fun h₀ L m s Q => ∀ a es o' spot' g' B h' tk', BxOk B → IsBox (es ++ news) (.ref a) B → PenOf l1 ys spot' g' o' → 0 ≤ spot' → spot' ≤ spot + 8 → (∀ p ∈ es ++ news, p.1 ≠ q) →
      Fr h₀ L h' m → News h₀ L h' ((q, o') :: (l1, LCg.lst ys) :: (es ++ news)) → Q (.ref a) { s with heap := h', toks := tk' }) := by
  unfold Ct PG
  try k_fill
  intro mean mg mb dp un gd cn cs a ccd cl outer A₀ base h₀ L m s Q E B F X N T hk hd hu hret
  refine wpAny_call ?_
  k_dflt (refine' code_defC ?k1 ?k2 ?k3 ?k4 ?k5 ?kA ?kF ?kK ?k6 ?k7 ?k8 ?k9 ?kB ?kD ?_ ?c2 ?c3 ?c4; (case kA => exact rfl); (case kF => exact rfl); (case kK => assumption); (case k1 => k_asm); (case k2 => k_asm); (case k3 => k_asm); (case k4 => k_asm); (case k5 => k_asm); (case k6 => k_is); (case k7 => k_is); (case k8 => ktr_room); (case k9 => exact BindsTo.of_eq rfl); (case kB => exact rfl); (case kD => decide +kernel); (case c2 => exact rfl); (case c3 => exact rfl); (case c4 => exact rfl); k_whole; intro g' L' h' tk' cells' FG' F' N' Y' B' X' T' l1'; k_cells Y'; (try simp only [List.cons_append, List.nil_append] at N'); (try dsimp only); (try k_fold))
  have hql := ltN (l1' _ (.head _))
  iterate 14 (first | (k_unfold; (try dsimp only)) | walk1 | (dsimp only; walk1))
  rename Fr _ _ _ _ => F9
  rename News _ _ _ _ => N9
  have N10 := led_rot N9
  k_dflt (refine LCg.CompSrc.range (n := 4) (by rfl) F9 N10 (by assumption) (by decide) (by decide) (by exact Nat.le_of_ble_eq_true rfl) (fun g9 => ?_))
  refine comp_rest_J (n := 4) (PenJ q l1 ys (_ :: news) spot) ?_ ?_ 4 0 [] _ ⟨[], o, spot, g, rfl, ho, hs0, by omega, ?_, trivial, rfl⟩ rfl
  · intro i9 v9 I9 oI9 C9 oC9 D9 m9 h9 tk9 E9 ys9 news9 R9 hP9 hi9 hJ9 hN9 hx9 F11 N11 o9 n9 hR9
    obtain ⟨es, o2, spot2, g2, rfl, ho2, hp0, hp1, hoff2, hdec, hlen⟩ := hJ9
    obtain ⟨t9, rfl⟩ := hP9
    have N12 := led_rot3 N11
    have hoff3 := off3_led (oI := oI9) (oC := oC9) (oD := LCg.lst ys9) o9 hoff2
    have hc9 := base_mem N12
    clear N11
    k_steps
    refine' dec_end ?F ?N o9 ?d ?v ?l ?l2 ?o ?p0 ?p1 hoff2 hdec hlen hR9
    (case F => k_asm)
    (case N => k_asm)
    (case d => assumption)
    (case v => split <;> omega)
    (case l => assumption)
    (case l2 => assumption)
    (case o => assumption)
    (case p0 => omega)
    (case p1 => omega)
  · intro ys9 news9 hJ9
    obtain ⟨es, o2, spot2, g2, rfl, ho2, hp0, hp1, hoff2, hdec, hlen⟩ := hJ9
    unfold LCg.FinE
    intro D9 h9 tk9 F11 N11 o9
    obtain ⟨v0, v1, v2, v3, V0, V1, V2, V3, rfl, d0, d1, d2, d3, c0, c1, c2, c3⟩ := allDec4 hdec hlen
    have d0' : IsDec ((D9, LCg.lst [v0, v1, v2, v3]) :: (q, o2) :: (l1, LCg.lst ys) :: (es ++ _ :: news)) v0 V0 := d0.sub.sub.sub
    have d1' := IsDec.sub (q := (D9, LCg.lst [v0, v1, v2, v3])) (IsDec.sub (q := (q, o2)) (IsDec.sub (q := (l1, LCg.lst ys)) d1))
    have d2' := IsDec.sub (q := (D9, LCg.lst [v0, v1, v2, v3])) (IsDec.sub (q := (q, o2)) (IsDec.sub (q := (l1, LCg.lst ys)) d2))
    have d3' := IsDec.sub (q := (D9, LCg.lst [v0, v1, v2, v3])) (IsDec.sub (q := (q, o2)) (IsDec.sub (q := (l1, LCg.lst ys)) d3))
    k_steps
    refine' drawn_ret hret ?F ?N (by assumption) d0 d1 d2 d3 c0 c1 c2 c3 ?l hoff2 ho2 hp0 (by omega)
    (case F => k_asm)
    (case N => k_asm)
    (case l => omega)
  · exact List.forall_mem_cons.mpr ⟨by k_ne, hoff⟩
theorem bxEq_iff {A B : Bx} : bxEq A B = true ↔ A.l = B.l ∧ A.b = B.b ∧ A.r = B.r ∧ A.t = B.t := by unfold bxEq; rw [decide_eq_true_eq]
theorem gap_iff {P O : Bx} : gapB P O = true ↔ (min P.r O.r < max P.l O.l ∨ min P.t O.t < max P.b O.b) := by
  unfold gapB
  rw [Bool.or_eq_true, decide_eq_true_eq, decide_eq_true_eq]
  exact Iff.rfl
theorem gap_not {P O : Bx} : gapB P O = false ↔ (max P.l O.l ≤ min P.r O.r ∧ max P.b O.b ≤ min P.t O.t) := by
  rw [← Bool.not_eq_true, gap_iff, not_or, Int.not_lt, Int.not_lt]
theorem ax_le {a b c d : Int} : max a b ≤ min c d ↔ (a ≤ c ∧ b ≤ c) ∧ (a ≤ d ∧ b ≤ d) := by rw [Int.le_min, Int.max_le, Int.max_le]
theorem ax_lt {a b c d : Int} : min c d < max a b ↔ ¬ ((a ≤ c ∧ b ≤ c) ∧ (a ≤ d ∧ b ≤ d)) := by rw [← ax_le, Int.not_le]
theorem cm_gap {P O : Bx} (h : gapB P O = true) : cm P O = none := by unfold cm; rw [if_pos h]
theorem cm_meet {P O : Bx} (h : gapB P O = false) : cm P O = some (meetB P O) := by unfold cm; rw [if_neg (by rw [h]; exact Bool.false_ne_true)]
/-- a box that lies within another one's corners meets it in itself -/
theorem meet_in {P O : Bx} (v : P.l ≤ P.r ∧ P.b ≤ P.t) (x : O.l ≤ P.l) (y : O.b ≤ P.b) (z : P.r ≤ O.r) (u : P.t ≤ O.t) : opEq (cm P O) (some P) = true := by
  rw [cm_meet (gap_not.mpr ⟨by rw [Int.max_eq_left x, Int.min_eq_left z]; exact v.1, by rw [Int.max_eq_left y, Int.min_eq_left u]; exact v.2⟩)]
  exact bxEq_iff.mpr ⟨Int.max_eq_left x, Int.max_eq_left y, Int.min_eq_left z, Int.min_eq_left u⟩
theorem cm_self {P : Bx} (v : BxOk P) : opEq (cm P P) (some P) = true :=
  meet_in ⟨v.lr, v.bt⟩ (Int.le_refl _) (Int.le_refl _) (Int.le_refl _) (Int.le_refl _)
theorem bxEq_self (A : Bx) : bxEq A A = true := bxEq_iff.mpr ⟨rfl, rfl, rfl, rfl⟩
theorem opEq_self (o : Option Bx) : opEq o o = true := by
  cases o with
  | none => rfl
  | some A => exact bxEq_self A
theorem meet_comm (P O : Bx) : meetB P O = meetB O P := by
  unfold meetB
  rw [Int.max_comm P.l, Int.max_comm P.b, Int.min_comm P.r, Int.min_comm P.t]
theorem gap_comm (P O : Bx) : gapB P O = gapB O P := by
  unfold gapB
  rw [meet_comm]
theorem cm_comm (P O : Bx) : opEq (cm P O) (cm O P) = true := by
  unfold cm
  rw [meet_comm, gap_comm]
  exact opEq_self _
theorem ax_gap {a b c d : Int} (h : a ≤ c) (k : b ≤ d) : min c d < max a b ↔ c < b ∨ d < a := by
  rw [ax_lt]
  omega
theorem gap_gap2 {P O : Bx} (v : BxOk P) (u : BxOk O) : gapB P O = gap2 P O := by
  rw [Bool.eq_iff_iff, gap_iff]
  unfold gap2
  rw [decide_eq_true_eq, ax_gap v.lr u.lr, ax_gap v.bt u.bt, or_assoc]
theorem lies_iff {P O : Bx} : liesB P O = true ↔ (O.l ≤ P.l ∧ P.l ≤ O.r ∧ O.b ≤ P.b ∧ P.b ≤ O.t) ∧ (O.l ≤ P.r ∧ P.r ≤ O.r ∧ O.b ≤ P.b ∧ P.b ≤ O.t) ∧ (O.l ≤ P.r ∧ P.r ≤ O.r ∧ O.b ≤ P.t ∧ P.t ≤ O.t) ∧ (O.l ≤ P.l ∧ P.l ≤ O.r ∧ O.b ≤ P.t ∧ P.t ≤ O.t) := by
  unfold liesB inB
  simp only [Bool.and_eq_true, decide_eq_true_eq, and_assoc]
theorem lies_all {P O : Bx} (v : P.l ≤ P.r ∧ P.b ≤ P.t) (x : O.l ≤ P.l) (y : O.b ≤ P.b) (z : P.r ≤ O.r) (u : P.t ≤ O.t) : liesB P O = true :=
  have a := Int.le_trans v.1 z
  have b := Int.le_trans v.2 u
  have c := Int.le_trans x v.1
  have d := Int.le_trans y v.2
  lies_iff.mpr ⟨⟨x, a, y, b⟩, ⟨c, z, y, b⟩, ⟨c, z, d, u⟩, ⟨x, a, d, u⟩⟩
theorem lies_eq {P O : Bx} (v : BxOk P) (_u : BxOk O) : opEq (cm P O) (some P) = liesB P O := by
  cases h : liesB P O with
  | true =>
    obtain ⟨⟨x, _, y, _⟩, _, ⟨_, z, _, u⟩, _⟩ := lies_iff.mp h
    exact meet_in ⟨v.lr, v.bt⟩ x y z u
  | false =>
    cases g : gapB P O with
    | true =>
      rw [cm_gap g]
      rfl
    | false =>
      rw [cm_meet g]
      refine Bool.eq_false_iff.mpr fun e => Bool.false_ne_true (h.symm.trans ?_)
      obtain ⟨x, y, z, u⟩ := bxEq_iff.mp e
      exact lies_all ⟨v.lr, v.bt⟩ (x ▸ Int.le_max_right ..) (y ▸ Int.le_max_right ..) (z ▸ Int.min_le_right ..) (u ▸ Int.min_le_right ..)
theorem lies_m1 {P O : Bx} (_v : BxOk P) (h : gapB P O = false) : liesB (meetB P O) P = true :=
  lies_all (gap_not.mp h) (Int.le_max_left ..) (Int.le_max_left ..) (Int.min_le_left ..) (Int.min_le_left ..)
theorem lies_m2 {P O : Bx} (_u : BxOk O) (h : gapB P O = false) : liesB (meetB P O) O = true :=
  lies_all (gap_not.mp h) (Int.le_max_right ..) (Int.le_max_right ..) (Int.min_le_right ..) (Int.min_le_right ..)
theorem meet_assoc (A B C : Bx) : meetB (meetB A B) C = meetB A (meetB B C) := by
  simp only [meetB, Int.max_assoc, Int.min_assoc]
theorem gap_assoc (A B C : Bx) : gapB (meetB A B) C = gapB A (meetB B C) := by
  unfold gapB
  rw [meet_assoc]
/-- what has a gap keeps it in a meet with a third -/
theorem gap_more {A B C : Bx} (h : gapB A B = true) : gapB (meetB A B) C = true := by
  rw [gap_iff] at h ⊢
  have lo : ∀ a b c d : Int, a < b → min a c < max b d := fun a b c d h => Int.lt_of_le_of_lt (Int.min_le_left ..) (Int.lt_of_lt_of_le h (Int.le_max_left ..))
  exact h.imp (lo _ _ _ _) (lo _ _ _ _)
theorem met_assoc (A B C : Bx) : opEq (metO (metO (some A) (some B)) (some C)) (metO (some A) (metO (some B) (some C))) = true := by
  have e : metO (metO (some A) (some B)) (some C) = metO (some A) (metO (some B) (some C)) := by
    show metO (cm A B) (some C) = metO (some A) (cm B C)
    cases h : gapB A B with
    | true =>
      rw [cm_gap h]
      cases g : gapB B C with
      | true => rw [cm_gap g]; rfl
      | false =>
        rw [cm_meet g]
        exact (cm_gap (by rw [← gap_assoc]; exact gap_more h)).symm
    | false =>
      rw [cm_meet h]
      cases g : gapB B C with
      | true =>
        rw [cm_gap g]
        exact cm_gap (by rw [gap_assoc, gap_comm]; exact gap_more g)
      | false =>
        rw [cm_meet g]
        show cm (meetB A B) C = cm A (meetB B C)
        unfold cm
        rw [meet_assoc, gap_assoc]
  rw [e]
  exact opEq_self _
theorem cm_in {P O : Bx} (v : P.l ≤ P.r ∧ P.b ≤ P.t) (x : O.l ≤ P.l) (y : O.b ≤ P.b) (z : P.r ≤ O.r) (u : P.t ≤ O.t) : opEq (cm O P) (some P) = true := by
  have h := meet_in v x y z u
  unfold cm at h ⊢
  rw [meet_comm, gap_comm]
  exact h
theorem around_ok {B : Bx} {V0 V1 V2 V3 : Int} (v : BxOk B) (h0 : V0 = -990) (h1 : V1 = -990) (h2 : V2 = 990) (h3 : V3 = 990) : opEq (cm ⟨min V0 V2, min V1 V3, max V0 V2, max V1 V3⟩ B) (some B) = true := by
  subst h0 h1 h2 h3
  exact cm_in ⟨v.lr, v.bt⟩ (Int.le_trans (by decide) v.l0) (Int.le_trans (by decide) v.b0) (Int.le_trans v.r0 (by decide)) (Int.le_trans v.t0 (by decide))
/-- one of the loop's three pairs -/
def PairOk (nw : Led) (v : Value) : Prop := ∃ T k x y P O, v = .ref T ∧ (T, tupOf [x, y] k) ∈ nw ∧ IsBox nw x P ∧ IsBox nw y O ∧ BxOk P ∧ BxOk O
def Stays (m₀ m : Str → Option Value) : Prop := ∀ y, y ≠ Str.ofString "found" → y ≠ Str.ofString "other" → y ≠ Str.ofString "one" → m y = m₀ y
abbrev over (m₀ : Str → Option Value) (a b c : Option Value) : Str → Option Value := fun y => if y = Str.ofString "found" then a else if y = Str.ofString "other" then b else if y = Str.ofString "one" then c else m₀ y
theorem Stays.over {m₀ m : Str → Option Value} (h : Stays m₀ m) : m = over m₀ (m (Str.ofString "found")) (m (Str.ofString "other")) (m (Str.ofString "one")) := by
  funext y
  unfold Mine.over
  split
  · rename_i e; rw [e]
  · split
    · rename_i e; rw [e]
    · split
      · rename_i e; rw [e]
      · rename_i a b c; exact h y a b c
def TurnEnd (h₀ : Heap) (L : Addr) (s : Shared) (I : Addr) (it : Obj) (nw : Led) (m₀ : Str → Option Value) (s' : Shared) : Prop :=
  ∃ h' tk' m', s' = { s with heap := h', toks := tk' } ∧ Fr h₀ L h' m' ∧ News h₀ L h' ((I, it) :: nw) ∧ Stays m₀ m'
theorem TurnEnd.intro {h₀ : Heap} {L : Addr} {s : Shared} {I : Addr} {it : Obj} {nw led : Led} {m₀ m' : Str → Option Value} {h' : Heap} {tk' : Nat} (F : Fr h₀ L h' m') (N : News h₀ L h' led) (sub : ∀ p ∈ (I, it) :: nw, p ∈ led) (hJ : Stays m₀ m') : TurnEnd h₀ L s I it nw m₀ { s with heap := h', toks := tk' } :=
  ⟨h', tk', m', rfl, F, drop_led N sub, hJ⟩
def TurnPost (h₀ : Heap) (L : Addr) (s : Shared) (I : Addr) (it : Obj) (nw : Led) (m₀ : Str → Option Value) (Q : Flow → Shared → Prop) (f : Flow) (s' : Shared) : Prop :=
  match f with
  | .ret v => Q (.ret v) s'
  | .brk => Q .next s'
  | _ => TurnEnd h₀ L s I it nw m₀ s'
section
variable {prog : Program} {w : World} {A : Around} {E : Value → Shared → Prop} {s : Shared} {env : Env} {h₀ : Heap} {target : Expr} {body : List Stmt} {Q : Flow → Shared → Prop}
theorem items_inv {I : Addr} {lp : Addr × Obj} {news : Led} {m₀ : Str → Option Value} (hkeep : lp ∈ news) (off : ∀ p ∈ news, p.1 ≠ I)
    (step : ∀ (nw : Led) (v : Value) (I : Addr) (it : Obj) (a b c : Option Value) (h : Heap) (tk : Nat), PairOk nw v → Fr h₀ env.locals h (over m₀ a b c) → News h₀ env.locals h ((I, it) :: nw) →
      wpAny (model prog w) A (assign target env v) (fun _ s₂ => wpAny (model prog w) A (execs body env) (TurnPost h₀ env.locals { s with heap := h, toks := tk } I it nw m₀ Q) E s₂) E { s with heap := h, toks := tk })
    (fin : ∀ (a b c : Option Value) (h : Heap) (tk : Nat), Fr h₀ env.locals h (over m₀ a b c) → News h₀ env.locals h news → Q .next { s with heap := h, toks := tk }) :
    ∀ (vs : List Value) (m : Str → Option Value), (∀ v ∈ vs, PairOk news v) → Stays m₀ m → ItemsRest prog w A E h₀ env target body Q s [(I, "list_iterator")] [lp] (vs.map .val) m news := by
  intro vs
  induction vs with
  | nil =>
    intro m _ hJ
    exact ItemsRest.zero fun h tk F N => fin _ _ _ h tk (hJ.over ▸ F) N
  | cons v r ih =>
    intro m hv hJ
    refine ItemsRest.val fun h tk F => ?_
    refine AllObj.cons fun o _ => AllObj.nil fun N => ?_
    refine wpAny_mono (step news v I o _ _ _ h tk (hv v (.head _)) (hJ.over ▸ F) N) (fun _ s₂ x => wpAny_mono x (fun f s₃ y => ?_) fun _ _ e => e) fun _ _ e => e
    have go : TurnEnd h₀ env.locals { s with heap := h, toks := tk } I o news m₀ s₃ → UnrEndW h₀ env.locals { s with heap := h, toks := tk } [(I, o)] (fun m' n' => SubL [lp] n' ∧ ItemsRest prog w A E h₀ env target body Q s [(I, "list_iterator")] [lp] (r.map .val) m' n') s₃ := by
      rintro ⟨h', tk', m', rfl, F', N', hJ'⟩
      exact ⟨h', tk', m', news, rfl, F', N', fun p hp q hq => by rw [List.mem_singleton.mp hq]; exact off p hp, ⟨hkeep, trivial⟩, ih m' (fun u hu => hv u (.tail _ hu)) hJ'⟩
    cases f with
    | ret u => exact y
    | brk => exact y
    | next => exact go y
    | cont => exact go y
theorem law_loop {ax : Addr} {vs : List Value} {n : Nat} {m₀ : Str → Option Value} {news : Led} (hh : A.handled = none) (F : Fr h₀ env.locals s.heap m₀) (N : News h₀ env.locals s.heap news) (hm : (ax, W.listOf vs.toArray n) ∈ news) (hv : ∀ v ∈ vs, PairOk news v)
    (step : ∀ (nw : Led) (v : Value) (I : Addr) (it : Obj) (a b c : Option Value) (h : Heap) (tk : Nat), PairOk nw v → Fr h₀ env.locals h (over m₀ a b c) → News h₀ env.locals h ((I, it) :: nw) →
      wpAny (model prog w) A (assign target env v) (fun _ s₂ => wpAny (model prog w) A (execs body env) (TurnPost h₀ env.locals { s with heap := h, toks := tk } I it nw m₀ Q) E s₂) E { s with heap := h, toks := tk })
    (fin : ∀ (a b c : Option Value) (h : Heap) (tk : Nat), Fr h₀ env.locals h (over m₀ a b c) → News h₀ env.locals h news → Q .next { s with heap := h, toks := tk }) :
    wpAny (model prog w) A (pyIter (.ref ax)) (fun it s₂ => TurnsAt prog w A h₀ env target body Q E it s₂) E s :=
  iter_listTurns hh F N hm rfl rfl fun I hI => items_inv hm (fun p hp => Nat.ne_of_lt (hI p hp)) step fin vs m₀ hv fun _ _ _ _ => rfl
end
theorem isOpt_box {news : Led} {v : Value} {B : Bx} (h : IsBox news v B) : IsOpt news v (some B) := h
theorem toldO_box {es : Led} {v : Value} {B : Bx} (h : IsTold es v B) : IsToldO es v (some B) := h
theorem IsOpt.box {news : Led} {v : Value} {P O : Bx} (h : IsOpt news v (cm P O)) (hg : gapB P O = false) : IsBox news v (meetB P O) := by
  rw [cm_meet hg] at h
  exact h
section
variable {prog : Program} {w : World} {A : Around} {E Q : Value → Shared → Prop} {s : Shared} {h₀ : Heap} {L : Addr} {es1 es2 led : Led} {a b : Value} {o p : Option Bx}
theorem ne_same (N : News h₀ L s.heap led) (t1 : IsToldO es1 a o) (t2 : IsToldO es2 b p) (s1 : ∀ q ∈ es1, q ∈ led) (s2 : ∀ q ∈ es2, q ∈ led) (hu : A.units + 64 < cLine) (e : opEq o p = true) (h : Q (.bool false) s) : wpAny (model prog w) A (compareOp .NotEq a b) Q E s :=
  ne_toldO N t1 t2 s1 s2 hu (by rw [e]; exact h)
theorem eq_same (N : News h₀ L s.heap led) (t1 : IsToldO es1 a o) (t2 : IsToldO es2 b p) (s1 : ∀ q ∈ es1, q ∈ led) (s2 : ∀ q ∈ es2, q ∈ led) (hu : A.units + 64 < cLine) (e : opEq o p = true) (h : Q (.bool true) s) : wpAny (model prog w) A (compareOp .Eq a b) Q E s :=
  eq_toldO N t1 t2 s1 s2 hu (by rw [e]; exact h)
end
theorem pairOk_mk {T : Addr} {k : Nat} {x y : Value} {P O : Bx} {nw : Led} (h : (T, tupOf [x, y] k) ∈ nw) (b1 : IsBox nw x P) (b2 : IsBox nw y O) (v1 : BxOk P) (v2 : BxOk O) : PairOk nw (.ref T) := ⟨T, k, x, y, P, O, rfl, h, b1, b2, v1, v2⟩
section
variable {prog : Program} {w : World} {A : Around} {E Q : Value → Shared → Prop} {s : Shared} {led : Led} {v : Value} {P O : Bx}
theorem is_none_cm (b : IsOpt led v (cm P O)) (h : Q (.bool (gapB P O)) s) : wpAny (model prog w) A (compareOp .Is v .none) Q E s := by
  cases hg : gapB P O with
  | true =>
    rw [cm_gap hg] at b
    rw [hg] at h
    obtain rfl : v = .none := b
    exact is_none_none h
  | false =>
    rw [cm_meet hg] at b
    rw [hg] at h
    have b' : IsBox led v (meetB P O) := b
    obtain ⟨_, _, _, _, _⟩ := b'
    exact is_none_ne (fun e => nomatch e) h
theorem isnot_none_cm (b : IsOpt led v (cm P O)) (h1 : gapB P O = true → Q (.bool false) s) (h2 : gapB P O = false → Q (.bool true) s) : wpAny (model prog w) A (compareOp .IsNot v .none) Q E s := by
  cases hg : gapB P O with
  | true =>
    rw [cm_gap hg] at b
    obtain rfl : v = .none := b
    exact isnot_none_none (h1 hg)
  | false =>
    rw [cm_meet hg] at b
    have b' : IsBox led v (meetB P O) := b
    obtain ⟨_, _, _, _, _⟩ := b'
    exact isnot_none_ne (fun e => nomatch e) (h2 hg)
theorem ne_bool_same {x y : Bool} (e : x = y) (h : Q (.bool false) s) : wpAny (model prog w) A (compareOp .NotEq (.bool x) (.bool y)) Q E s := ne_bool (by rw [e, bne_self_eq_false]; exact h)
end
theorem liesT_c {w : World} {news : Led} {v1 v2 : Value} {P O : Bx} (b1 : IsBox news v1 P) (b2 : IsBox news v2 O) (e : liesB P O = true) :
    Ct w 12 249 [v1, v2] news (fun h₀ L m s Q => Ret0 h₀ L m news s Q fun r => r = .bool true) := by
  have h := lies_c (w := w) b1 b2
  rw [e] at h
  exact h
theorem dec_now {h₀ h : Heap} {L x dx : Addr} {o : Obj} {nw : Led} {V : Int} (_N : News h₀ L h ((x, instObj 143 dx) :: (dx, o) :: nw)) (hd : ∀ nw, IsDec ((x, instObj 143 dx) :: (dx, o) :: nw) (.ref x) V) : IsDec ((x, instObj 143 dx) :: (dx, o) :: nw) (.ref x) V := hd nw
local macro_rules | `(tactic| ktr_rel) => `(tactic| first
  | (focus ((repeat (first | assumption | apply IsDec.sub | apply IsBox.sub | apply IsBox.app | apply IsOpt.sub | apply IsOpt.app)); done))
  | (apply IsOpt.box; (focus ((repeat (first | assumption | apply IsOpt.sub | apply IsOpt.app)); done)); assumption)
  | (apply isOpt_box; (focus ((repeat (first | assumption | apply IsBox.sub | apply IsBox.app)); done)))
  | (apply BoxOf.box; assumption; k_mem; (focus ((repeat (first | assumption | apply IsDec.sub)); done)); (focus ((repeat (first | assumption | apply IsDec.sub)); done)); (focus ((repeat (first | assumption | apply IsDec.sub)); done)); (focus ((repeat (first | assumption | apply IsDec.sub)); done))))
theorem lines24 : True := by
  (k_with "m call ref" => (k_of "new" => (k_here; k_dflt (refine' ct_use (decimalV_c ?zqp0 ?zqp1 ?zqb1 ?zqb2) ?zqB ?zqF ?zqX ?zqN ?zqT ?zqk ?zqdd ?zquu ?_; ktn_open; (case zqp0 => omega); (case zqp1 => omega); (case zqb1 => omega); (case zqb2 => omega)); intro x' h' tk' dx' o' hd' F' N' l1 l2; (have hd9 := dec_now N' hd'); clear hd'; (try k_sweep); (try dsimp only); (try k_fold))))
  (k_with "m call ref" => (k_of "new" => (k_here; k_dflt (refine' ct_use (lies_c ?zqb1 ?zqb2) ?zqB ?zqF ?zqX ?zqN ?zqT ?zqk ?zqdd ?zquu ?_; ktn_open; (case zqb1 => ktr_rel); (case zqb2 => ktr_rel)); intro r' h' tk' hr' F' N'; subst hr'; (try k_sweep); (try dsimp only); (try k_fold))))
  (k_with "m call ref" => (k_of "new" => (k_here; k_dflt (refine' ct_use (liesT_c ?zqb1 ?zqb2 ?zqe) ?zqB ?zqF ?zqX ?zqN ?zqT ?zqk ?zqdd ?zquu ?_; ktn_open; (case zqb1 => ktr_rel); (case zqb2 => ktr_rel); (case zqe => first | exact lies_m1 (by assumption) (by assumption) | exact lies_m2 (by assumption) (by assumption))); intro r' h' tk' hr' F' N'; subst hr'; (try k_sweep); (try dsimp only); (try k_fold))))
  (k_with "m call ref" => (k_of "new" => (k_here; k_dflt (refine' ct_use (pen_c ?zqi ?zqz) ?zqB ?zqF ?zqX ?zqN ?zqT ?zqk ?zqdd ?zquu ?_; ktn_open; (case zqi => assumption); (case zqz => omega); refine' And.intro ?zqhL ?_; (case zqhL => assumption)); intro q' l1' o' ys' h' tk' ho' hi' hl' hq' F' N'; refine Exists.elim hi' ?_; clear hi'; intro ms' hi'; (try k_sweep); (try dsimp only); (try k_fold))))
  (k_with "m call ref" => (k_of "new" => (k_here; k_dflt (refine' ct_use (drawn_c ?zqi ?zql ?zqs0 ?zqs1 ?zqo ?zqn ?zqoff) ?zqB ?zqF ?zqX ?zqN ?zqT ?zqk ?zqdd ?zquu ?_; ktn_open; (case zqo => assumption); (case zqi => assumption); (case zql => assumption); (case zqs0 => omega); (case zqs1 => omega); (case zqn => assumption); (case zqoff => first | assumption | exact fun _ h => nomatch h)); intro a' es' o' spot' g' B' h' tk' hB' hb' ho' hp0' hp1' hoff' F' N'; (try k_sweep); (try dsimp only); (try k_fold))))
  (k_with "m compareOp Is" => (k_of "new" => (k_here; k_dflt (refine' is_none_cm ?zqb ?_; (case zqb => ktr_rel)))))
  (k_with "m compareOp IsNot" => (k_of "new" => (k_here; k_dflt (refine' isnot_none_cm ?zqb (fun hg9 => ?_) (fun hg9 => ?_); (case zqb => ktr_rel)))))
  (k_with "m compareOp NotEq" => (k_of "new" => (k_here; k_dflt (refine' ne_same ?zqN ?zqt1 ?zqt2 ?zqs1 ?zqs2 ?zqu ?zqe ?_; (case zqN => k_asm); (case zqt1 => first | assumption | (apply toldO_box; assumption)); (case zqt2 => first | assumption | (apply toldO_box; assumption)); (case zqs1 => (intro p9 h9; simp only [List.mem_append, List.mem_cons, h9, true_or, or_true])); (case zqs2 => (intro p9 h9; simp only [List.mem_append, List.mem_cons, h9, true_or, or_true])); (case zqu => ktr_units); (case zqe => first | (with_reducible exact cm_self (by assumption)) | (with_reducible exact cm_comm _ _))))))
  (k_with "m compareOp NotEq bool bool" => (k_of "new" => (k_here; refine ne_bool_same (by first | exact gap_gap2 (by assumption) (by assumption) | exact lies_eq (by assumption) (by assumption)) ?_)))
  (k_with "m compareOp Eq" => (k_of "new" => (k_here; k_dflt (first
  | (refine' eq_same ?zqN ?zqt1 ?zqt2 ?zqs1 ?zqs2 ?zqu ?zqe ?_; (case zqN => k_asm); (case zqt1 => first | assumption | (apply toldO_box; assumption)); (case zqt2 => first | assumption | (apply toldO_box; assumption)); (case zqs1 => (intro p9 h9; simp only [List.mem_append, List.mem_cons, h9, true_or, or_true])); (case zqs2 => (intro p9 h9; simp only [List.mem_append, List.mem_cons, h9, true_or, or_true])); (case zqu => ktr_units); (case zqe => first | (with_reducible exact met_assoc _ _ _) | ((with_reducible refine around_ok ?zqw0 ?zqw1 ?zqw2 ?zqw3 ?zqw4); (case zqw0 => assumption); (case zqw1 => decide); (case zqw2 => decide); (case zqw3 => decide); (case zqw4 => decide))))
  | (refine' eq_toldO ?zqN ?zqt1 ?zqt2 ?zqs1 ?zqs2 ?zqu ?_; (case zqN => k_asm); (case zqt1 => first | assumption | (apply toldO_box; assumption)); (case zqt2 => first | assumption | (apply toldO_box; assumption)); (case zqs1 => (intro p9 h9; simp only [List.mem_append, List.mem_cons, h9, true_or, or_true])); (case zqs2 => (intro p9 h9; simp only [List.mem_append, List.mem_cons, h9, true_or, or_true])); (case zqu => ktr_units))))))
  (k_with "m TurnPost" => (k_of "new" => (dsimp only [TurnPost])))
  (k_with "m TurnEnd" => (k_of "new" => (k_dflt (refine' TurnEnd.intro ?zqF ?zqN ?zqs ?zqj; (case zqF => k_asm); (case zqN => k_asm); (case zqs => (intro p9 h9; repeat (first | exact h9 | refine List.mem_append.mpr (Or.inr ?_) | refine mem_tl ?_))); (case zqj => (intro y9 h1 h2 h3; simp only [over, h1, h2, h3, if_false]))))))
  (k_with "m pyIter ref" => (k_of "new" => (k_here; (with_reducible show wpAny _ _ (pyIter (Value.ref _)) (fun it s₂ => TurnsAt _ _ _ _ _ _ _ _ _ it s₂) _ _); k_dflt (refine' law_loop ?zqh ?zqF ?zqN ?zqm ?zqv ?zqst ?zqfi; (case zqh => rfl); (case zqF => k_asm); (case zqN => k_asm); (case zqm => k_mem); (case zqv => (refine List.forall_mem_cons.mpr ⟨?_, List.forall_mem_cons.mpr ⟨?_, List.forall_mem_cons.mpr ⟨?_, List.forall_mem_nil _⟩⟩⟩ <;> (refine' pairOk_mk ?zqa ?zqb ?zqc ?zqd ?zqe; (case zqa => k_mem); (case zqb => ktr_rel); (case zqc => ktr_rel); (case zqd => assumption); (case zqe => assumption))))); (case' zqst => (intro nw9 v9 I9 it9 a9 b9 c9 h9 tk9 hv9 F9 N9; obtain ⟨T9, k9, x9, y9, P9, O9, e9, hT9, hx9, hy9, vP9, vO9⟩ := hv9; subst e9; (try dsimp only))); (case' zqfi => (intro a9 b9 c9 h9 tk9 F9 N9; (try dsimp only))))))
  exact trivial
theorem law_holds : PySem.Challenge.rw_og0146_01.Holds := hd (by
  k_go0
  all_goals try k_fold
  k_steps)

end Mine
set_option maxRecDepth 100000 in
set_option maxHeartbeats 8000000 in
theorem PySem.Challenge.cw_og0146_01_holds : PySem.Challenge.rw_og0146_01.Holds :=
  Mine.law_holds
