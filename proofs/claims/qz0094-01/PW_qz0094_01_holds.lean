import PyProof.Rows.All
import Wide.All
import OpenK.AllK
import Wide.FinOn
import Lean
import PySem.Challenge.RW_qz0094_01
set_option Elab.async false
set_option maxRecDepth 100000
set_option maxHeartbeats 0
set_option compiler.extract_closed false
section
open PySem PySem.W PyProof.Rows
namespace Mine
local macro_rules | `(tactic| o_head $_) => `(tactic| assumption)
theorem hd (_h : PySem.Challenge.rw_qz0094_01.row.Holds) : PySem.Challenge.rw_qz0094_01.row.Holds := by k_head
end Mine
end
local macro_rules | `(tactic| k_all) => `(tactic| assumption)
local macro_rules | `(tactic| k_room) => `(tactic| ktr_room)
local macro_rules | `(tactic| k_handed) => `(tactic| assumption)
section
open PySem PySem.W PySem.Spec PySem.Calls PyProof.Rows PyProof.V
namespace Mine
local macro_rules | `(tactic| walk_at "setItem ref str") => `(tactic| (k_here; k_dflt (refine' kda_set (knd := PySem.strKind _ _) ?F ?N ?U ?d (strKind_is _ _ _ _) ?z ?_; (case F => k_asm); (case N => k_asm); (case U => k_updF); (case d => k_asm); (case z => kob_size)); intro h' o' F' N' hd'; (try kob_lit); (try dsimp only at N')))

theorem fm_lo {a b : Int} (h : 1 < b) : 0 ≤ a.fmod b := by
  rw [Int.fmod_eq_emod_of_nonneg _ (by omega)]; exact Int.emod_nonneg _ (by omega)
theorem fm_hi {a b : Int} (h : 1 < b) : a.fmod b < b := by
  rw [Int.fmod_eq_emod_of_nonneg _ (by omega)]; exact Int.emod_lt_of_pos _ (by omega)
abbrev DipRet (w : World) (h₀ : Heap) (L : Addr) (m : Str → Option Value) (pond l : Addr) (at_ many : Int) (vs : List Value) (rest : List (Addr × Obj)) (s : Shared) (Q : Value → Shared → Prop) : Prop :=
  ∀ (v : Int) (o' : Obj) (t t3' : Tok) (h' : Heap) (tk' : Nat), 0 ≤ v → v < many → Fr h₀ L h' m → News h₀ L h' ((pond, o') :: (l, listOf vs.toArray 0) :: rest) →
    o'.IsDictOf (strKind PySem.Challenge.rw_qz0094_01.row.prog w) [("script", .ref l), ("at", .int (at_ + 1) t3')] → Q (.int v t) { s with heap := h', toks := tk' }
theorem dip_K : ∀ (w : World) (p : Program) (loose : List Str) (mean : ExcName → Option Value) (mg mb : Str → Option Value)
    (dp un : Nat) (gd : Option (List Code)) (cn : Str) (cs : Scope) (a : Addr) (ccd : Value) (cl : List (Str × Addr)) (outer : List Env) (A₀ : Around) (base h₀ : Heap) (L : Addr) (m : Str → Option Value) (s : Shared) (Q E : Value → Shared → Prop)
    (pond l : Addr) (o : Obj) (t3 tk : Tok) (at_ many : Int) (vs : List Value) (ns : List Int) (rest : List (Addr × Obj)),
    Below A₀ base outer h₀ → Fr h₀ L s.heap m → (hd.heap_1 w.params).In h₀ → News h₀ L s.heap ((pond, o) :: (l, listOf vs.toArray 0) :: rest) → Top p loose mean mg mb h₀ → cs.kind = .function →
    (∀ q ∈ rest, q.1 ≠ pond) → l ≠ pond → (pond == sysModules) = false →
    o.IsDictOf (strKind PySem.Challenge.rw_qz0094_01.row.prog w) [("script", .ref l), ("at", .int at_ t3)] → IntsAre vs ns → ns.length ≤ 63 → 0 ≤ at_ → at_ ≤ 100 → 1 < many → many ≤ 7 → dp + 4 < recursionLimit → un + 100 < cLine →
    DipRet w h₀ L m pond l at_ many vs rest s Q →
    wpAny (model PySem.Challenge.rw_qz0094_01.row.prog w) (ktrTop dp un gd cn cs L a ccd cl outer) (call (.ref 419) [.ref pond, .int many tk]) Q E s := by
  k_fill
  intro w p loose mean mg mb dp un gd cn cs a ccd cl outer A₀ base h₀ L m s Q E pond l o t3 tk at_ many vs ns rest B F X N T hk hr hlp lo hd hI hlen h0 h1 hm1 hm2 hdp hun hret
  refine wpAny_call ?_
  k_dflt cell_enter
  k_steps
  all_goals exact hret _ _ _ _ _ _ (fm_lo hm1) (fm_hi hm1) (by assumption) (by assumption) (by assumption)
end Mine
end
section
open PySem PySem.W PySem.Spec PySem.Calls PyProof.Rows PyProof.V
namespace Mine
theorem dip_use : ∀ {w : World} {p : Program} {loose : List Str} {mean : ExcName → Option Value} {mg mb : Str → Option Value}
    {dp un : Nat} {gd : Option (List Code)} {cn : Str} {cs : Scope} {a : Addr} {ccd : Value} {cl : List (Str × Addr)} {outer : List Env} {A₀ : Around} {base h₀ : Heap} {L : Addr} {m : Str → Option Value} {s : Shared} {Q E : Value → Shared → Prop}
    {pond l : Addr} {o : Obj} {t3 tk : Tok} {at_ many : Int} {vs : List Value} {ns : List Int} {news : List (Addr × Obj)} {g : Obj → List (Addr × Obj)},
    Fr h₀ L s.heap m → News h₀ L s.heap news → Below A₀ base outer h₀ → (hd.heap_1 w.params).In h₀ → Top p loose mean mg mb h₀ → UpdF pond o news g →
    o.IsDictOf (strKind PySem.Challenge.rw_qz0094_01.row.prog w) [("script", .ref l), ("at", .int at_ t3)] → IntsAre vs ns → (l, listOf vs.toArray 0) ∈ news → l ≠ pond → cs.kind = .function → (pond == sysModules) = false → ns.length ≤ 63 → 0 ≤ at_ → at_ ≤ 100 → 1 < many → many ≤ 7 → dp + 4 < recursionLimit → un + 100 < cLine →
    (∀ (v : Int) (o' : Obj) (t t3' : Tok) (h' : Heap) (tk' : Nat), 0 ≤ v → v < many → Fr h₀ L h' m → News h₀ L h' (g o') →
    o'.IsDictOf (strKind PySem.Challenge.rw_qz0094_01.row.prog w) [("script", .ref l), ("at", .int (at_ + 1) t3')] → Q (.int v t) { s with heap := h', toks := tk' }) →
    wpAny (model PySem.Challenge.rw_qz0094_01.row.prog w) (ktrTop dp un gd cn cs L a ccd cl outer) (call (.ref 419) [.ref pond, .int many tk]) Q E s := by
  intro w p loose mean mg mb dp un gd cn cs a ccd cl outer A₀ base h₀ L m s Q E pond l o t3 tk at_ many vs ns news g F N B X T U hd hI hm hlp hk lo hlen h0 h1 hm1 hm2 hdp hun hret
  obtain ⟨pre, post, e1, e2, n1, n2⟩ := U.split
  subst e1
  refine dip_K w p loose mean mg mb dp un gd cn cs a ccd cl outer A₀ base h₀ L m s Q E pond l o t3 tk at_ many vs ns (pre ++ post) B F X (fun q hq => N q ?_) T hk ?_ hlp lo hd hI hlen h0 h1 hm1 hm2 hdp hun ?_
  · simp only [List.mem_cons, List.mem_append] at hq hm ⊢
    rcases hq with rfl | rfl | hq | hq
    · exact Or.inr (Or.inl rfl)
    · exact hm
    · exact Or.inl hq
    · exact Or.inr (Or.inr hq)
  · intro q hq
    rcases List.mem_append.mp hq with hq | hq
    · exact n1 q hq
    · exact n2 q hq
  · intro v o' t t3' h' tk' hv0 hv1 F' N' hd'
    refine hret v o' t t3' h' tk' hv0 hv1 F' (fun q hq => N' q ?_) hd'
    rw [e2] at hq
    simp only [List.mem_cons, List.mem_append] at hq ⊢
    rcases hq with hq | rfl | hq
    · exact Or.inr (Or.inr (Or.inl hq))
    · exact Or.inl rfl
    · exact Or.inr (Or.inr (Or.inr hq))
abbrev ent (w : World) (n : String) (t : Tok) (v : Value) : DictEntry := ⟨PyData.keyHash w.params (Str.ofString n), .str (Str.ofString n) t, v⟩
end Mine
end
section
open PySem PySem.W PySem.Spec PySem.Calls PyProof.Rows PyProof.V
namespace Mine
def fnT (l : List Tok) (n : Nat) : Tok := l.getD n 0
def fnV (l : List Value) (n : Nat) : Value := l.getD n .none
def NameV (v : Value) : Prop := ∃ x t, v = .str x t ∧ (x = Str.ofString "X" ∨ x = Str.ofString "AA" ∨ x = Str.ofString "Dog" ∨ x = Str.ofString "Old")
def OptV (v : Value) : Prop := v = .none ∨ NameV v
def CountV (v : Value) : Prop := (∃ i t, v = .int i t ∧ (i = 0 ∨ i = 2 ∨ i = 1 ∨ i = -1 ∨ i = 3 ∨ i = 999)) ∨ ∃ t, v = .str (Str.ofString "2x") t
theorem NameV.opt {v : Value} (h : NameV v) : OptV v := Or.inr h
theorem NameV.handed {v : Value} (h : NameV v) : handedIn v = true := by obtain ⟨x, t, rfl, _⟩ := h; rfl
theorem OptV.handed {v : Value} (h : OptV v) : handedIn v = true := by rcases h with rfl | h; rfl; exact h.handed
theorem CountV.handed {v : Value} (h : CountV v) : handedIn v = true := by
  rcases h with ⟨x, t, rfl, _⟩ | ⟨t, rfl⟩ <;> rfl
theorem pick_any {prog : Program} {w : World} {A : Around} {E : Value → Shared → Prop} {s : Shared} {value slice : PySem.Expr} {l : Addr} {vs : List Value} {k : Int} {u : Tok} {P : Value → Prop} {Q : Value → Shared → Prop}
    (hl : s.heap.IsList l vs.toArray) (h0 : 0 ≤ k) (hlen : k < vs.length) (hs2 : k < 2 ^ 63) (hP : ∀ x ∈ vs, P x) (h : ∀ v, P v → Q v s)
    (hs : subscripted slice false (.ref l) (.int k u) = operate [.ref l, .int k u] (getItem (.ref l) (.int k u)) := by with_unfolding_all rfl) :
    wpAny (model prog w) A (subscriptTail value slice (.ref l) (.int k u)) Q E s := by
  have hk : k.toNat < vs.length := by omega
  exact item_litK hl h0 hs2 (List.getElem?_eq_getElem hk) (h _ (hP _ (List.getElem_mem hk))) hs
theorem name_all {ta tb tc : Tok} : ∀ x ∈ [Value.str (Str.ofString "X") ta, .str (Str.ofString "AA") tb, .str (Str.ofString "Dog") tc], NameV x := by
  intro x hx
  simp only [List.mem_cons, List.not_mem_nil, or_false] at hx
  rcases hx with rfl | rfl | rfl
  · exact ⟨_, _, rfl, Or.inl rfl⟩
  · exact ⟨_, _, rfl, Or.inr (Or.inl rfl)⟩
  · exact ⟨_, _, rfl, Or.inr (Or.inr (Or.inl rfl))⟩
theorem old_all {ta : Tok} : ∀ x ∈ [Value.none, .str (Str.ofString "Old") ta], OptV x := by
  intro x hx
  simp only [List.mem_cons, List.not_mem_nil, or_false] at hx
  rcases hx with rfl | rfl
  · exact Or.inl rfl
  · exact Or.inr ⟨_, _, rfl, Or.inr (Or.inr (Or.inr rfl))⟩
theorem opt_all {v : Value} (h : NameV v) : ∀ x ∈ [Value.none, v], OptV x := by
  intro x hx
  simp only [List.mem_cons, List.not_mem_nil, or_false] at hx
  rcases hx with rfl | rfl
  · exact Or.inl rfl
  · exact Or.inr h
theorem count_all {ta tb tc td te tf tg : Tok} : ∀ x ∈ [Value.int 0 ta, .int 2 tb, .int 1 tc, .int (-1) td, .int 3 te, .str (Str.ofString "2x") tf, .int 999 tg], CountV x := by
  intro x hx
  simp only [List.mem_cons, List.not_mem_nil, or_false] at hx
  rcases hx with rfl | rfl | rfl | rfl | rfl | rfl | rfl
  · exact Or.inl ⟨_, _, rfl, Or.inl rfl⟩
  · exact Or.inl ⟨_, _, rfl, Or.inr (Or.inl rfl)⟩
  · exact Or.inl ⟨_, _, rfl, Or.inr (Or.inr (Or.inl rfl))⟩
  · exact Or.inl ⟨_, _, rfl, Or.inr (Or.inr (Or.inr (Or.inl rfl)))⟩
  · exact Or.inl ⟨_, _, rfl, Or.inr (Or.inr (Or.inr (Or.inr (Or.inl rfl))))⟩
  · exact Or.inr ⟨_, rfl⟩
  · exact Or.inl ⟨_, _, rfl, Or.inr (Or.inr (Or.inr (Or.inr (Or.inr rfl))))⟩
structure Cut (V : Value → Prop) (h₀ : Heap) (L : Addr) (m : Str → Option Value) (news : List (Addr × Obj)) (s : Shared) (v : Value) (s' : Shared) : Prop where
  val : V v
  here : KJoinAt h₀ L m news s s'
theorem cut_eval {M : Model} {A : Around} {E : Value → Shared → Prop} {s : Shared} {env : Env} {h₀ : Heap} {L : Addr} {m : Str → Option Value} {news : List (Addr × Obj)} {e : PySem.Expr} {Q : Value → Shared → Prop} (V : Value → Prop)
    (F : Fr h₀ L s.heap m) (N : News h₀ L s.heap news)
    (h1 : wpAny M A (eval e env) (fun v s' => Cut V h₀ L m news s v s') E s)
    (h2 : ∀ v h' tk', V v → Fr h₀ L h' m → News h₀ L h' news → Q v { s with heap := h', toks := tk' }) : wpAny M A (eval e env) Q E s := by
  refine wpAny_mono h1 (fun v s' ⟨hv, h', tk, e, F', N'⟩ => ?_) fun _ _ h => h
  subst e
  exact h2 v h' tk hv F' N'
end Mine
end
section
open PySem PySem.W PySem.Spec PySem.Calls PyProof.Rows PyProof.V
namespace Mine
theorem among_other {pos : Pos} {a b : Int} {c : Value} (l : List Value) (h : TriplesOk l) (hn : (pos.line : Int) ≠ a) : codeAmong pos (l ++ [rawInt a, rawInt b, c]) = codeAmong pos l := by
  fun_induction TriplesOk l with
  | case1 =>
    have : ¬ (a = (pos.line : Int) ∧ b = (pos.col : Int)) := fun z => hn z.1.symm
    simp [codeAmong, rawInt, this]
  | case2 a' t b' u x rest ih =>
    simp only [List.cons_append, codeAmong]
    split
    · rfl
    · exact ih h
  | case3 l h1 h2 => exact h.elim
def Slot (ps : Array Value) (pos : Pos) (k : Addr) (o : Obj) (qual : Str) : Prop := codeAmong pos ps.toList = none ∨ (codeAmong pos ps.toList = some (.ref k) ∧ ∃ vs t, o.data = .fields vs ∧ vs[1]? = some (.str qual t))
theorem Slot.keep {ps ps' : Array Value} {pos : Pos} {k : Addr} {o : Obj} {qual : Str} (h : Slot ps pos k o qual) (e : codeAmong pos ps'.toList = codeAmong pos ps.toList) : Slot ps' pos k o qual := by
  unfold Slot at *; rw [e]; exact h
section
variable {M : Model} {A : Around} {E : Value → Shared → Prop} {s : Shared} {h₀ : Heap} {L a c P k : Addr} {m mg mb : Str → Option Value} {cn : Str} {cs : Scope} {ccd : Value} {cl : List (Str × Addr)} {news : List (Addr × Obj)} {g : Obj → List (Addr × Obj)}
  {p : Program} {loose : List Str} {mean : ExcName → Option Value} {name qual : Str} {params : Arguments} {scope : Scope} {ps : Array Value} {pos : Pos} {firstLine : Nat} {clos : List (Str × Addr)} {o : Obj}
theorem nest_any {body : List Stmt} {Q : Value → Shared → Prop} (F : Fr h₀ L s.heap m) (N : News h₀ L s.heap news) (T : Top p loose mean mg mb h₀) (C : CodeHd h₀ c P) (hcd : ccd = .ref c) (U : UpdF P (tabObj ps) news g) (ht : TriplesOk ps.toList) (hk : (k, o) ∈ news) (hs : Slot ps pos k o qual)
    (hcl : closureFor scope (envX cn cs L a ccd cl) = pure clos)
    (h : ∀ f c' oc ps' vs t ctv doc h' tk, Fr h₀ L h' m →
      News h₀ L h' ((f, fnMade name qual params body scope clos doc ((mg "__name__").getD .none) c' ctv) :: (c', oc) :: g (tabObj ps')) →
      oc.data = .fields vs → vs[1]? = some (.str qual t) → (∀ q ∈ news, q.1 ≠ k → q.1 ≠ c') → (∀ q ∈ news, q.1 < f) → c' < f → TriplesOk ps'.toList → codeAmong pos ps'.toList = some (.ref c') →
      (∀ pos' : Pos, pos'.line ≠ pos.line → codeAmong pos' ps'.toList = codeAmong pos' ps.toList) → Q (.ref f) { s with heap := h', toks := tk }) :
    wpAny M A (makeFunction name qual params (.stmts body) scope (envX cn cs L a ccd cl) [] [] [] pos firstLine) Q E s := by
  rcases hs with hn | ⟨hf, vs, t, hd, hv⟩
  · refine nest_K F N T C hcd U ht hn hcl fun f c' oc vs t ctv doc h' tk F' N' d1 d2 l1 l2 => ?_
    refine h f c' oc _ vs t ctv doc h' tk F' N' d1 d2 (fun q hq _ => Nat.ne_of_lt (l1 q hq)) (fun q hq => Nat.lt_trans (l1 q hq) l2) l2 ?_ ?_ ?_
    · rw [Array.toList_append]; exact TriplesOk_snoc _ _ _ _ ht
    · rw [Array.toList_append]; exact codeAmong_snoc _ ht hn
    · intro pos' hp; rw [Array.toList_append]; exact among_other _ ht (fun z => hp (by exact_mod_cast z))
  · obtain ⟨pre, post, e1, e2, n1, n2⟩ := U.split
    refine nestHit_K F N T C hcd (by rw [e1]; simp) ht hf hcl fun f ctv doc h' tk F' N' l1 => ?_
    refine h f k o ps vs t ctv doc h' tk F' (fun q hq => N' q ?_) hd hv (fun q hq z => z) l1 (l1 _ hk) ht hf fun _ _ => rfl
    rcases List.mem_cons.mp hq with rfl | hq
    · exact .head _
    · rcases List.mem_cons.mp hq with rfl | hq
      · exact .tail _ hk
      · rw [e2, ← e1] at hq; exact .tail _ hq
theorem lam_any {body : PySem.Expr} {Q : Value → Shared → Prop} (F : Fr h₀ L s.heap m) (N : News h₀ L s.heap news) (T : Top p loose mean mg mb h₀) (C : CodeHd h₀ c P) (hcd : ccd = .ref c) (U : UpdF P (tabObj ps) news g) (ht : TriplesOk ps.toList) (hk : (k, o) ∈ news) (hs : Slot ps pos k o qual)
    (hcl : closureFor scope (envX cn cs L a ccd cl) = pure clos)
    (h : ∀ f c' oc ps' vs t ctv h' tk, Fr h₀ L h' m →
      News h₀ L h' ((f, kla_obj name qual params body scope clos ((mg "__name__").getD .none) c' ctv) :: (c', oc) :: g (tabObj ps')) →
      oc.data = .fields vs → vs[1]? = some (.str qual t) → (∀ q ∈ news, q.1 ≠ k → q.1 ≠ c') → (∀ q ∈ news, q.1 < f) → c' < f → TriplesOk ps'.toList → codeAmong pos ps'.toList = some (.ref c') →
      (∀ pos' : Pos, pos'.line ≠ pos.line → codeAmong pos' ps'.toList = codeAmong pos' ps.toList) → Q (.ref f) { s with heap := h', toks := tk }) :
    wpAny M A (makeFunction name qual params (.expr body) scope (envX cn cs L a ccd cl) [] [] [] pos firstLine) Q E s := by
  rcases hs with hn | ⟨hf, vs, t, hd, hv⟩
  · refine kla_nest F N T C hcd U ht hn hcl fun f c' oc vs t ctv h' tk F' N' d1 d2 l1 l2 => ?_
    refine h f c' oc _ vs t ctv h' tk F' N' d1 d2 (fun q hq _ => Nat.ne_of_lt (l1 q hq)) (fun q hq => Nat.lt_trans (l1 q hq) l2) l2 ?_ ?_ ?_
    · rw [Array.toList_append]; exact TriplesOk_snoc _ _ _ _ ht
    · rw [Array.toList_append]; exact codeAmong_snoc _ ht hn
    · intro pos' hp; rw [Array.toList_append]; exact among_other _ ht (fun z => hp (by exact_mod_cast z))
  · obtain ⟨pre, post, e1, e2, n1, n2⟩ := U.split
    refine kla_hit F N T C hcd (by rw [e1]; simp) ht hf hcl fun f ctv h' tk F' N' l1 => ?_
    refine h f k o ps vs t ctv h' tk F' (fun q hq => N' q ?_) hd hv (fun q hq z => z) l1 (l1 _ hk) ht hf fun _ _ => rfl
    rcases List.mem_cons.mp hq with rfl | hq
    · exact .head _
    · rcases List.mem_cons.mp hq with rfl | hq
      · exact .tail _ hk
      · rw [e2, ← e1] at hq; exact .tail _ hq
end
end Mine
end
section
open PySem
namespace Mine
open Sem (wp)
section
variable {M : Model} {A : Around} {E : Value → Shared → Prop} {h : Heap} {g : Array GenState} {d : Drawn} {t : Nat} {os : OsState}
variable {nm q : Str} {C N : Addr} {bs bm bmB : List Value} {hdct : Bool} {sn : List Str} {sub : List Value} {ab : Bool} {col : Option Bool} {dd : Option Addr} {k0 k1 k2 k3 k5 : Option Value} {B newId initId : String}
theorem ex_check_new (F : ExcBaseFacts B newId initId bmB) (hB : bm.contains (.type B) = true) {rest : List Value} {Q : Unit → Shared → Prop} (hC : h.get? C = some (excClassObj nm q C N bs bm hdct sn sub ab col dd k0 k1 k2 k3 k5 newId))
    (hq : Q () ⟨h, g, d, t, os⟩) : wpAny M A (checkBuiltinCall newId ⟨.ref C :: rest, []⟩) Q E ⟨h, g, d, t, os⟩ := by
  have hcont : (Value.ref C :: bm).contains (.type B) = true := by rw [List.contains_cons, hB, Bool.or_true]
  have hstar := F.noStar
  simp only [checkBuiltinCall, F.newKind, F.newSplit, F.newRow]
  repeat (first | refine wpAny_loadPart_at hC ?_ | (refine wpAny_isSubtype_exc hC ?_; rw [hcont]) | refine wpAny_staticBase_exc hC ?_ | refine wpAny_madeBy_exc hC ?_ | simp only [bne_self_eq_false, Bool.false_eq_true, if_false] | wp_step)
  exact hq
theorem ex_check_init (F : ExcBaseFacts B newId initId bmB) (hB : bm.contains (.type B) = true) {e : Addr} {oe : Obj} {rest : List Value} {Q : Unit → Shared → Prop}
    (hC : h.get? C = some (excClassObj nm q C N bs bm hdct sn sub ab col dd k0 k1 k2 k3 k5 newId)) (he : h.get? e = some oe) (hcls : oe.cls = .ref C) (hq : Q () ⟨h, g, d, t, os⟩) :
    wpAny M A (checkBuiltinCall initId ⟨.ref e :: rest, []⟩) Q E ⟨h, g, d, t, os⟩ := by
  have hcB : (Value.ref C :: bm).contains (.type B) = true := by rw [List.contains_cons, hB, Bool.or_true]
  have hshort := F.noStar
  simp only [checkBuiltinCall, F.initKind, F.initSplit, F.initRow]
  repeat (first | (with_reducible refine wpAny_loadPart_at he ?_; rw [hcls]) | with_reducible refine wpAny_loadPart_at hC ?_ | (with_reducible refine wpAny_isSubtype_exc hC ?_; rw [hcB]) | wp_step)
  refine wpAny_onRaise ?_
  rw [show ∀ (a b : String) (n : Nat), Bind.check ⟨.positional, "*", B, .self, [⟨"args", .varPos, false⟩]⟩ a b n (List.map (fun x => x.fst) ({ pos := Value.ref e :: rest } : Args).kw) = pure () from
    fun a b n => check_star_args _ _ _ _ _ _]
  exact wpAny_pure hq
end
section
variable {prog : Program} {w : World} {A : Around} {R : Result → Shared → Prop} {h : Heap} {g : Array GenState} {d : Drawn} {t : Nat} {os : OsState}
variable {nm q : Str} {C N : Addr} {bs bm bmB : List Value} {hdct : Bool} {sn : List Str} {sub : List Value} {ab : Bool} {col : Option Bool} {dd : Option Addr} {k0 k1 k2 k3 k5 : Option Value} {B newId initId : String}
theorem ex_new (F : ExcBaseFacts B newId initId bmB) (hB : bm.contains (.type B) = true) (hAt : bm.contains (.type "AttributeError") = false) (hNm : bm.contains (.type "NameError") = false) {rest : List Value} (hC : h.get? C = some (excClassObj nm q C N bs bm hdct sn sub ab col dd k0 k1 k2 k3 k5 newId))
    (hq : R (.ok (.ret (.ref (h.objs.size + 1)))) ⟨(h.push { cls := .type "tuple", data := .seq rest.toArray }).push
      { cls := .ref C, data := .fields #[.ref h.objs.size, .none, .none, .none, .bool false, .none] }, g, d, t, os⟩) (hrest : rest.length ≤ sizeLine) :
    codeAny (model prog w) A (.builtin newId ⟨.ref C :: rest, []⟩) R ⟨h, g, d, t, os⟩ := by
  have hends := F.ends
  have hcB : (Value.ref C :: bm).contains (.type B) = true := by rw [List.contains_cons, hB, Bool.or_true]
  have hcA : (Value.ref C :: bm).contains (.type "AttributeError") = false := by rw [List.contains_cons, hAt]; rfl
  have hcN : (Value.ref C :: bm).contains (.type "NameError") = false := by rw [List.contains_cons, hNm]; rfl
  refine codeAny_builtinAt F.entry ?_
  unfold Builtin.«BaseException.__new__»
  refine wpAt_bind ?_
  show wpAt _ _ _ (stack >>= _) _ _ _
  refine wpAt_bind (wpAt_stack fun p below => wpAt_of_wpAny ?_)
  wp_walk
  refine wpAt_of_wpAny ?_
  rw [F.owner]
  repeat (first | with_reducible refine wpAny_madeHere_exc F.canon hC ?_ | with_reducible refine wpAny_loadPart_at hC ?_ | (with_reducible refine wpAny_isSubtype_exc hC ?_; first | rw [hcB] | rw [hcA] | rw [hcN]) | wp_step)
  show R _ _
  rw [Heap.size_push]
  exact hq
end
section
variable {prog : Program} {w : World} {A : Around} {E : Value → Shared → Prop} {h : Heap} {g : Array GenState} {d : Drawn} {t : Nat} {os : OsState}
variable {nm q : Str} {C N : Addr} {bs bm bmB : List Value} {hdct : Bool} {sn : List Str} {sub : List Value} {ab : Bool} {col : Option Bool} {dd : Option Addr} {k0 k1 k2 k3 k5 : Option Value} {B newId initId : String}
theorem ex_type_call (F : ExcBaseFacts B newId initId bmB) (hB : bm.contains (.type B) = true) (hAt : bm.contains (.type "AttributeError") = false) (hNm : bm.contains (.type "NameError") = false) {rest : List Value} {fI : Addr} {oI : Obj} {Q : Fin → Shared → Prop}
    (hC : h.get? C = some (excClassObj nm q C N bs bm hdct sn sub ab col dd k0 k1 k2 k3 k5 newId)) {mN : Str → Option Value} (hn : h.Ns N mN) (hi : mN "__init__" = some (.ref fI))
    (hfI : h.get? fI = some oI) (hfc : oI.cls = .type "function")
    (hq : ∀ h' e, Heap.MadeExcOf h h' e (.ref C) rest →
      wpAny (model prog w) A (call (.ref fI) (.ref e :: rest)) (fun r s' => r = .none ∧ Q (.done (.ret (.ref e))) s') E ⟨h', g, d, t, os⟩) (hrest : rest.length ≤ sizeLine) :
    wpAny (model prog w) A (Builtin.«type.__call__» ⟨.ref C :: rest, []⟩) Q E ⟨h, g, d, t, os⟩ := by
  repeat (first | with_reducible refine wpAny_loadPart_at hC ?_ | with_reducible refine wpAny_madeBy_exc hC ?_ | wp_step)
  refine codeAny_call_builtin_code (Code.quiet_builtin _ F.quiet) (ex_check_new F hB hC ?_)
  refine ex_new F hB hAt hNm hC ?_ hrest
  show wpAny _ _ _ _ _ _
  have hC₁ := Heap.get?_push_of_some { cls := .ref C, data := .fields #[.ref h.objs.size, .none, .none, .none, .bool false, .none] }
    (Heap.get?_push_of_some { cls := .type "tuple", data := .seq rest.toArray } hC)
  have hfI₁ := Heap.get?_push_of_some { cls := .ref C, data := .fields #[.ref h.objs.size, .none, .none, .none, .bool false, .none] }
    (Heap.get?_push_of_some { cls := .type "tuple", data := .seq rest.toArray } hfI)
  have hn₁ : ((h.push { cls := .type "tuple", data := .seq rest.toArray }).push { cls := .ref C, data := .fields #[.ref h.objs.size, .none, .none, .none, .bool false, .none] }).Ns N mN :=
    let ⟨o, es, ep, e, r⟩ := hn; ⟨o, es, ep, Heap.get?_push_of_some _ (Heap.get?_push_of_some _ e), r⟩
  have hget : ((h.push { cls := .type "tuple", data := .seq rest.toArray }).push
      { cls := .ref C, data := .fields #[.ref h.objs.size, .none, .none, .none, .bool false, .none] }).get? (h.objs.size + 1) = some
      { cls := .ref C, data := .fields #[.ref h.objs.size, .none, .none, .none, .bool false, .none] } := by heap_get
  have hcC : (Value.ref C :: bm).contains (.ref C) = true := by simp
  unfold isInstance
  repeat (first | with_reducible refine wpAny_loadPart_at hget ?_ | (with_reducible refine wpAny_isSubtype_exc hC₁ ?_; rw [hcC]) | wp_step)
  show wpAny _ _ (typeLookup (.ref C) _) _ _ _
  rw [typeLookup_eq]
  refine wpAny_bind (wpAny_mroOf_exc hC₁ ?_)
  rw [lookupAlong_cons]
  refine wpAny_bind (wpAny_classOwn_exc hC₁ hn₁ ?_)
  rw [hi]
  refine wpAny_pure (wpAny_holding (wpAny_bind ?_))
  unfold bindSpecial
  refine wpAny_bind (wpAny_typeOf (T := "function") ⟨_, hfI₁, hfc⟩ ?_)
  rw [if_pos (by decide)]
  refine wpAny_pure (wpAny_bind (wpAny_mono (hq _ (h.objs.size + 1) ⟨fun b o hb => Heap.get?_push_of_some _ (Heap.get?_push_of_some _ hb), Heap.get?_none_of_le (Nat.le_succ _), h.objs.size, hget, Heap.get?_none_of_le (Nat.le_refl _), ?_⟩) (fun r s' hr => ?_) fun _ _ x => x))
  · exact Heap.get?_push_of_some _ (Heap.get?_push_at rfl rfl)
  · obtain ⟨rfl, hQ⟩ := hr
    wp_walk
    exact hQ
theorem ex_call (F : ExcBaseFacts B newId initId bmB) (hB : bm.contains (.type B) = true) (hAt : bm.contains (.type "AttributeError") = false) (hNm : bm.contains (.type "NameError") = false) {rest : List Value} {fI : Addr} {oI : Obj} {Q : Value → Shared → Prop}
    (hC : h.get? C = some (excClassObj nm q C N bs bm hdct sn sub ab col dd k0 k1 k2 k3 k5 newId)) {mN : Str → Option Value} (hn : h.Ns N mN) (hi : mN "__init__" = some (.ref fI))
    (hfI : h.get? fI = some oI) (hfc : oI.cls = .type "function")
    (hq : ∀ h' e, Heap.MadeExcOf h h' e (.ref C) rest →
      wpAny (model prog w) (A.under (.builtin "type.__call__" ⟨.ref C :: rest, []⟩)) (call (.ref fI) (.ref e :: rest)) (fun r s' => r = .none ∧ Q (.ref e) s') E ⟨h', g, d, t, os⟩) (hrest : rest.length ≤ sizeLine) :
    wpAny (model prog w) A (call (.ref C) rest) Q E ⟨h, g, d, t, os⟩ := by
  have f1 := tc_lookup
  have f2 := tc_bind (.ref C)
  have hT : (⟨h, g, d, t, os⟩ : Shared).TypeIs (.ref C) "type" := ⟨_, hC, rfl⟩
  refine wpAny_call (codeAny_of_tree ?_)
  show wpAny _ _ (callAny (.ref C) _) _ _ _
  repeat (any_goals (first | assumption | with_reducible refine wpAny_loadPart_at hC ?_ | wp_step))
  refine ⟨rfl, ?_⟩
  refine codeAny_call_builtin_at (Code.quiet_builtin _ (by decide +kernel)) entry_typeCall (wpAny_check_type_call_sub hC (ex_type_call F hB hAt hNm hC hn hi hfI hfc (fun h' e hm => ?_) hrest))
  exact hq h' e hm
theorem ex_init (F : ExcBaseFacts B newId initId bmB) (hB : bm.contains (.type B) = true) {rest : List Value} {Q : Value → Shared → Prop} {e t₀ : Addr} {dx : Option Addr} {sl : Array (Option Value)}
    (hC : h.get? C = some (excClassObj nm q C N bs bm hdct sn sub ab col dd k0 k1 k2 k3 k5 newId)) (he : h.get? e = some { cls := .ref C, dict := dx, data := .fields #[.ref t₀, .none, .none, .none, .bool false, .none], slots := sl }) (hrest : rest.length ≤ sizeLine)
    (hq : Q .none ⟨(h.push { cls := .type "tuple", data := .seq rest.toArray }).update e (Obj.mapFields (·.setIfInBounds 0 (.ref h.objs.size))), g, d, t, os⟩) :
    wpAny (model prog w) A (call (.builtin initId) (.ref e :: rest)) Q E ⟨h, g, d, t, os⟩ := by
  refine wpAny_call (codeAny_call_builtin F.init.plain F.initEntry (ex_check_init F hB hC he rfl ?_))
  wp_walk
  exact hq
end
end Mine
end
section
open PySem PySem.W PySem.Spec PySem.Calls PyProof.Rows PyProof.V PySem.Builtin PySem.Builtin.ObjectAttr
namespace Mine
section
variable {prog : Program} {w : World} {A : Around} {K : Frag} {C x L : Addr} {s : Shared} {h₀ : Heap} {m : Str → Option Value} {news : List (Addr × Obj)} {R : Result → Shared → Prop} {E : Value → Shared → Prop}
theorem sid {pre post : List (Addr × Obj)} {es es' : List DictEntry} {n n' : Nat} {dx : Addr} {name : Str} {tk : Tok} {v : Value} {Qf : PySem.Fin → Shared → Prop}
    (F : Fr h₀ L s.heap m) (N : News h₀ L s.heap (pre ++ (dx, dictOf es n) :: post)) (h1 : ∀ p ∈ pre, p.1 ≠ dx) (h2 : ∀ p ∈ post, p.1 ≠ dx) (hl : (getL name es).isSome = true)
    (e : (putL name (PyData.keyHash w.params name) (.str name s.toks) v es, putN name es n) = (es', n')) (hz : es'.length ≤ 1000)
    (h : ∀ h', Fr h₀ L h' m → News h₀ L h' (pre ++ (dx, dictOf es' n') :: post) → Qf (.done (.ret .none)) { s with heap := h', toks := s.toks + 1 }) :
    wpAny (model prog w) A (storeInDict dx (.str name tk) name v) Qf E s := by
  obtain ⟨e1, e2⟩ := Prod.mk.inj e
  have e0 : Obj.putName name (PyData.keyHash w.params name) (.str name s.toks) v (dictOf es n) = dictOf es' n' := by rw [putName_dict, e1, e2]
  obtain ⟨U1, U2⟩ := news_upd (f := Obj.putName name (PyData.keyHash w.params name) (.str name s.toks) v) F N h1 h2 e0 rfl
  have D := (N (dx, dictOf es n) (by simp)).1
  have D' := (U2 (dx, dictOf es' n') (by simp)).1
  refine wpAny_bind (wpAny_pure (wpAny_bind ?_))
  unfold nsSet
  refine wpAny_bind (wpAny_bind (wpAny_askSetting (wpAny_pure (wpAny_bind (wpAny_mkText (wpAny_bind (wpAny_loadPart D ?_)))))))
  dsimp only
  have c : (!es.toArray.any (·.key.isStr name) && es.toArray.any (·.refKey)) = false := by
    rw [← Array.any_toList, ← Array.any_toList]
    unfold getL at hl
    split at hl
    · rename_i en he
      rw [List.any_eq_true.mpr ⟨en, List.mem_of_find?_eq_some he, List.find?_some he⟩]; rfl
    · split at hl
      · cases hl
      · rename_i z; rw [Bool.not_eq_true] at z; rw [z, Bool.and_false]
  rw [aRefKeyMayBeTheName_at, c]
  refine wpAny_updatePart D ?_
  refine wpAny_bind (wpAny_lookBehind D' (pastItsLine_dict (by rw [List.size_toArray, sizeLine_eq]; omega)) ?_)
  exact wpAny_pure (h _ U1 U2)
theorem refuse_exc (self : Value) (c1 c2 : Addr) : refuseLoop self "__setattr__" [.ref c1, .ref c2, .type "Exception", .type "BaseException", .type "object"] = pure () := by
  rw [refuseLoop_ref, refuseLoop_ref]
  exact PySem.F.store_Exception.passes self
theorem osa_exc {ox : Obj} {od : Option Obj} {name : Str} {tk : Tok} {v : Value} {cd : ClassData} {c2 : Addr} (X : K.In s.heap) (I : InstAt s.heap x ox C od) (hc : clsIn K C = some cd)
    (hm : cd.mro = [.ref C, .ref c2, .type "Exception", .type "BaseException", .type "object"]) (ha : findIn K (.ref C) name = some none)
    (h : ∀ b, wpAny (model prog w) A.in1 (storeInOwnDict (.ref x) (.ref C) (.str name tk) name v b)
      (fun fin s' => match fin with | .done f => R (.ok f) s' | .again c' => c'.quiet = true ∧ codeAny (model prog w) A c' R s') (fun e s' => R (.error e) s') s) :
    codeAny (model prog w) A (.call (.builtin "object.__setattr__") ⟨[.ref x, .str name tk, v], []⟩) R s := by
  have SF := PySem.F.store_object
  have sub : Looks (model prog w) s.heap (isInstance (.ref x) (.type "object")) true := I.type.andThen (looks_mroIn X (by unfold mroIn; rw [hc, Option.bind_some, hm]; rfl))
  refine codeAny_call_builtin SF.slot.plain SF.entry (@check_slot (model prog w) _ _ s "object.__setattr__" "object" "__setattr__" (.ref x) [.str name tk, v] [] _ SF.kind SF.split sub (SF.args (.ref x) (.str name tk) v) ?_)
  have hmr : Looks (model prog w) s.heap (mroOf (.ref C)) cd.mro := (looks_clsIn X hc).andThen .now
  rw [osa_eq, refuse_eq]
  refine wpAny_bind (wpAny_bind (I.type.here (wpAny_bind (hmr.here ?_))))
  rw [hm, refuse_exc]
  refine wpAny_pure (wpAny_bind (I.type.here (wpAny_bind ((looks_findIn X ha).here (wpAny_bind (wpAny_pure ?_))))))
  exact h _
theorem set_exc0 {name : Str} {v : Value} {cd : ClassData} {c2 : Addr} {vs : Array Value} {sl : Array (Option Value)} {g : Obj → List (Addr × Obj)} {Q : Unit → Shared → Prop} (F : Fr h₀ L s.heap m) (X₀ : K.In h₀) (N : News h₀ L s.heap news) (U : UpdF x ⟨.ref C, none, .fields vs, sl⟩ news g)
    (hs : findIn K (.ref C) "__setattr__" = some (some (.builtin "object.__setattr__"))) (hc : clsIn K C = some cd)
    (hm : cd.mro = [.ref C, .ref c2, .type "Exception", .type "BaseException", .type "object"]) (hh : cd.hasDict = true) (ha : findIn K (.ref C) name = some none)
    (h : ∀ dx h' tk tk', Fr h₀ L h' m → News h₀ L h' ((dx, dictOf [⟨PyData.keyHash w.params name, .str name tk, v⟩] 1) :: g ⟨.ref C, some dx, .fields vs, sl⟩) → (∀ p ∈ news, p.1 < dx) → Q () { s with heap := h', toks := tk' }) :
    wpAny (model prog w) A (setAttr (.ref x) name v) Q E s := by
  have X := X₀.keeps F.keep
  obtain ⟨pre, post, e1, e2, n1, n2⟩ := U.split
  subst e1
  have hx := (N (x, ⟨.ref C, none, .fields vs, sl⟩) (by simp)).1
  have I : InstAt s.heap x ⟨.ref C, none, .fields vs, sl⟩ C none := ⟨hx, rfl, rfl, trivial⟩
  refine set_plain X I hs ?_
  refine osa_exc (s := { s with toks := s.toks + 1 }) X I hc hm ha fun b => ?_
  refine wpAny_bind (wpAny_pure (wpAny_bind (wpAny_bind (wpAny_loadPart hx (wpAny_bind (looks_clsIn X hc _ _ _ _ (fun _ _ e => e) ?_))))))
  rw [hh]
  have F1 := F.push (dictOf [] 0)
  have N1 := N.push F (dictOf [] 0)
  have hx1 := (N1 (x, ⟨.ref C, none, .fields vs, sl⟩) (by simp)).1
  obtain ⟨F2, N2⟩ := news_upd (pre := (s.heap.objs.size, dictOf [] 0) :: pre) (post := post) (f := fun o => { o with dict := some s.heap.objs.size }) F1 N1 (fun p hp => by
    rcases List.mem_cons.mp hp with rfl | hp
    · exact fun q => absurd (Heap.lt_size hx) (by rw [← q]; exact Nat.lt_irrefl _)
    · exact n1 p hp) n2 (o' := ⟨.ref C, some s.heap.objs.size, .fields vs, sl⟩) rfl rfl
  refine wpAny_bind (wpAny_alloc (wpAny_bind (wpAny_update hx1 ?_)))
  refine wpAny_pure (a := some s.heap.objs.size) ?_
  refine sid (pre := []) (n' := 1) (es := []) (n := 0) (post := pre ++ (x, ⟨.ref C, some s.heap.objs.size, .fields vs, sl⟩) :: post) F2 (by simpa using N2) (fun _ hp => nomatch hp) ?_ rfl rfl (by show 1 ≤ 1000; decide) (fun h' F' N' => ?_)
  · intro p hp
    refine Nat.ne_of_lt ?_
    rcases List.mem_append.mp hp with hp | hp
    · exact Heap.lt_size (N p (by simp [hp])).1
    · rcases List.mem_cons.mp hp with rfl | hp
      · exact Heap.lt_size hx
      · exact Heap.lt_size (N p (by simp [hp])).1
  · refine h _ h' (s.toks + 1) _ F' ?_ fun p hp => Heap.lt_size (N p hp).1
    rw [e2]
    exact N'
theorem set_exc1 {name : Str} {v : Value} {cd : ClassData} {c2 dx : Addr} {vs : Array Value} {sl : Array (Option Value)} {es : List DictEntry} {es' : Tok → List DictEntry} {n n' : Nat} {g : Obj → List (Addr × Obj)} {Q : Unit → Shared → Prop} (F : Fr h₀ L s.heap m) (X₀ : K.In h₀) (N : News h₀ L s.heap news)
    (hx : (x, (⟨.ref C, some dx, .fields vs, sl⟩ : Obj)) ∈ news) (U : UpdF dx (dictOf es n) news g)
    (hs : findIn K (.ref C) "__setattr__" = some (some (.builtin "object.__setattr__"))) (hc : clsIn K C = some cd)
    (hm : cd.mro = [.ref C, .ref c2, .type "Exception", .type "BaseException", .type "object"]) (hh : cd.hasDict = true) (ha : findIn K (.ref C) name = some none)
    (hl : (getL name es).isSome = true)
    (e : ∀ tk, (putL name (PyData.keyHash w.params name) (.str name tk) v es, putN name es n) = (es' tk, n')) (hz : ∀ tk, (es' tk).length ≤ 1000)
    (h : ∀ h' tk tk', Fr h₀ L h' m → News h₀ L h' (g (dictOf (es' tk) n')) → Q () { s with heap := h', toks := tk' }) :
    wpAny (model prog w) A (setAttr (.ref x) name v) Q E s := by
  have X := X₀.keeps F.keep
  have hx0 := (N _ hx).1
  obtain ⟨pre, post, e1, e2, n1, n2⟩ := U.split
  subst e1
  have hd := (N (dx, dictOf es n) (by simp)).1
  have I : InstAt s.heap x ⟨.ref C, some dx, .fields vs, sl⟩ C (some (dictOf es n)) := ⟨hx0, rfl, rfl, hd⟩
  refine set_plain X I hs ?_
  refine osa_exc (s := { s with toks := s.toks + 1 }) X I hc hm ha fun b => ?_
  refine wpAny_bind (wpAny_pure (wpAny_bind (wpAny_bind (wpAny_loadPart hx0 (wpAny_bind (looks_clsIn X hc _ _ _ _ (fun _ _ e => e) ?_))))))
  rw [hh]
  refine wpAny_pure (a := some dx) ?_
  refine sid (s := { s with toks := s.toks + 1 }) F N n1 n2 hl (e _) (hz _) (fun h' F' N' => ?_)
  refine h h' (s.toks + 1) _ F' ?_
  rw [e2]
  exact N'
end
end Mine
end
section
open PySem PySem.W PySem.Spec PySem.Calls PyProof.Rows PyProof.V
namespace Mine
section
variable {prog : Program} {w : World} {A : Around} {K : Frag} {C N₁ L : Addr} {s : Shared} {h₀ : Heap} {m : Str → Option Value} {news : List (Addr × Obj)} {E : Value → Shared → Prop}
variable {nm q : Str} {bs bm bmB : List Value} {hdct : Bool} {sn : List Str} {sub : List Value} {ab : Bool} {col : Option Bool} {dd : Option Addr} {k0 k1 k2 k3 k5 : Option Value} {B newId initId : String}
abbrev exObj (C : Addr) (dx : Option Addr) (t : Addr) : Obj := { cls := .ref C, dict := dx, data := .fields #[.ref t, .none, .none, .none, .bool false, .none] }
abbrev tupO (vs : List Value) : Obj := { cls := .type "tuple", data := .seq vs.toArray }
theorem exc_make {rest : List Value} {fI : Addr} {oI : Obj} {mN : Str → Option Value} {Q : Value → Shared → Prop} (FB : ExcBaseFacts B newId initId bmB) (hB : bm.contains (.type B) = true) (hAt : bm.contains (.type "AttributeError") = false) (hNm : bm.contains (.type "NameError") = false)
    (F : Fr h₀ L s.heap m) (X₀ : K.In h₀) (N : News h₀ L s.heap news)
    (hC : K.lookup C = some (excClassObj nm q C N₁ bs bm hdct sn sub ab col dd k0 k1 k2 k3 k5 newId)) (hn : h₀.Ns N₁ mN) (hi : mN "__init__" = some (.ref fI)) (hfI : K.lookup fI = some oI) (hfc : oI.cls = .type "function") (hrest : rest.length ≤ sizeLine)
    (h : ∀ e t₀ h', Fr h₀ L h' m → News h₀ L h' ((e, exObj C none t₀) :: news) → (∀ p ∈ news, p.1 ≠ e) →
      wpAny (model prog w) (A.under (.builtin "type.__call__" ⟨.ref C :: rest, []⟩)) (call (.ref fI) (.ref e :: rest)) (fun r s' => r = .none ∧ Q (.ref e) s') E { s with heap := h' }) :
    wpAny (model prog w) A (call (.ref C) rest) Q E s := by
  have X := X₀.keeps F.keep
  refine ex_call FB hB hAt hNm (X _ _ hC) (hn.keeps F.keep) hi (X _ _ hfI) hfc (fun h' e hm => ?_) hrest
  obtain ⟨t₀, he, ht, ht'⟩ := hm.there
  refine h e t₀ h' (F.keeps hm.keeps) (fun p hp => ?_) (fun p hp => ?_)
  · rcases List.mem_cons.mp hp with rfl | hp
    · refine ⟨he, fun z => ?_, ?_⟩
      · obtain ⟨oL, _, _, hL, _⟩ := F.ns
        have := hm.new
        rw [show e = L from z, hL] at this; cases this
      · cases hq : h₀.get? e with
        | none => rfl
        | some o => have := F.keep _ _ hq; rw [hm.new] at this; cases this
    · exact ⟨hm.keeps _ _ (N p hp).1, (N p hp).2⟩
  · intro z
    have := (N p hp).1
    rw [z, hm.new] at this; cases this
theorem exc_init_K {rest : List Value} {e t₀ : Addr} {dx : Option Addr} {g : Obj → List (Addr × Obj)} {Q : Value → Shared → Prop} (FB : ExcBaseFacts B newId initId bmB) (hB : bm.contains (.type B) = true)
    (F : Fr h₀ L s.heap m) (X₀ : K.In h₀) (N : News h₀ L s.heap news) (U : UpdF e (exObj C dx t₀) news g)
    (hC : K.lookup C = some (excClassObj nm q C N₁ bs bm hdct sn sub ab col dd k0 k1 k2 k3 k5 newId)) (hrest : rest.length ≤ sizeLine)
    (h : ∀ t₁ h', Fr h₀ L h' m → News h₀ L h' ((t₁, tupO rest) :: g (exObj C dx t₁)) → (∀ p ∈ news, p.1 < t₁) → Q .none { s with heap := h' }) :
    wpAny (model prog w) A (call (.builtin initId) (.ref e :: rest)) Q E s := by
  have X := X₀.keeps F.keep
  obtain ⟨pre, post, e1, e2, n1, n2⟩ := U.split
  subst e1
  have he := (N (e, exObj C dx t₀) (by simp)).1
  have F1 := F.push (tupO rest)
  have N1 := N.push F (tupO rest)
  obtain ⟨F2, N2⟩ := news_upd (pre := (s.heap.objs.size, tupO rest) :: pre) (post := post) (f := Obj.mapFields (·.setIfInBounds 0 (.ref s.heap.objs.size))) F1 N1 (fun p hp => by
    rcases List.mem_cons.mp hp with rfl | hp
    · exact fun q => absurd (Heap.lt_size he) (by rw [← q]; exact Nat.lt_irrefl _)
    · exact n1 p hp) n2 (o' := exObj C dx s.heap.objs.size) rfl rfl
  refine ex_init FB hB (X _ _ hC) he hrest ?_
  refine h _ _ F2 ?_ fun p hp => Heap.lt_size (N p hp).1
  rw [e2]
  exact N2
theorem raise_gen {e₀ : PySem.Expr} {env : Env} {pos : Pos} {Q : Flow → Shared → Prop} (hbase : bm.contains (.type "BaseException") = true) (hh : A.handled = none)
    (h : wpAny (model prog w) A (eval e₀ env) (fun v s₁ => ∃ e dx t, v = .ref e ∧ s₁.heap.get? C = some (excClassObj nm q C N₁ bs bm hdct sn sub ab col dd k0 k1 k2 k3 k5 newId) ∧
      s₁.heap.get? e = some (exObj C dx t) ∧ E (.ref e) s₁) E s) :
    wpAny (model prog w) A (exec (.Raise (some e₀) none pos) env) Q E s := by
  have hcB : (Value.ref C :: bm).contains (.type "BaseException") = true := by rw [List.contains_cons, hbase, Bool.or_true]
  rw [arm_exec_Raise]
  refine wpAny_bind (wpAny_standAt ?_)
  unfold raiseStmt
  simp only [evalOpt, Option.map]
  refine wpAny_bind (wpAny_bind (wpAny_mono h (fun v s₁ h₁ => wpAny_bind (wpAny_standAt (wpAny_pure ?_))) fun _ _ x => x))
  obtain ⟨e, dx, t, rfl, hC, he, hE⟩ := h₁
  obtain ⟨hp, g, d, tk, os⟩ := s₁
  repeat (first | with_reducible refine wpAny_loadPart_at he ?_ | with_reducible refine wpAny_loadPart_at hC ?_ | (with_reducible refine wpAny_isSubtype_exc hC ?_; rw [hcB]) | wp_step)
  exact wpAny_raiseNew_none hh hE
theorem leave_exc {g h : Heap} {base : Heap} {outer : List Env} {a e t : Addr} {dx : Option Addr} {name : Str} {scope : Scope} {cd : Value} {M : Model} {vs : List Value} {s' : Shared} {Q : Unit → Shared → Prop}
    (K' : Below A base outer g) (F : Fr g L s'.heap m) (N : News g L s'.heap news) (hne : ∀ q ∈ news, q.1 ≠ e ∧ q.1 ≠ t) (he : s'.heap.get? e = some (exObj C dx t)) (hge : g.get? e = none) (ht : s'.heap.get? t = some (tupO vs)) (hgt : g.get? t = none)
    (hQ : ∀ h', RaisedK base outer e (.ref C) t vs news h' → g.UpToSlots h' → Q () { s' with heap := h' }) (hk : scope.kind = .function := by rfl) :
    wpAny M (A.deeper (envOf name scope L a cd)) (leaving (envOf name scope L a cd) (.ref e)) Q E s' := by
  have Kp := K'.push (name := name) (a := a) (cd := cd) F hk
  have fm := K'.frames
  let as : List Addr := e :: t :: (envOf name scope L a cd :: outer).filterMap (·.frame)
  have hin : ∀ env ∈ (envOf name scope L a cd :: outer), ∀ b, env.frame = some b → b ∈ as := fun env he b hb => List.mem_cons_of_mem _ (List.mem_cons_of_mem _ (List.mem_filterMap.mpr ⟨env, he, hb⟩))
  have st : base.StaysIn (hideAll s'.heap as) := fun b o q => hideAll_get _ (Kp.stays b o q) fun hm => by
    rcases List.mem_cons.mp hm with rfl | hm
    · rw [K'.stays _ _ q] at hge; cases hge
    · rcases List.mem_cons.mp hm with rfl | hm
      · rw [K'.stays _ _ q] at hgt; cases hgt
      · rw [(Kp.frames.mem hm).1] at q; cases q
  have hl : ∀ q ∈ news, (hideAll s'.heap as).get? q.1 = some q.2 ∧ base.get? q.1 = none := fun q hq => by
    refine ⟨hideAll_get _ (N q hq).1 fun hm => ?_, fresh_of_stays K'.stays (N q hq).2.2⟩
    rcases List.mem_cons.mp hm with hm | hm
    · exact (hne q hq).1 hm
    · rcases List.mem_cons.mp hm with hm | hm
      · exact (hne q hq).2 hm
      · obtain ⟨env, he', hf⟩ := List.mem_filterMap.mp hm
        rcases List.mem_cons.mp he' with rfl | he'
        · exact (N q hq).2.1 (Option.some.inj hf).symm
        · obtain ⟨o, ho, _⟩ := (fm.mem (List.mem_filterMap.mpr ⟨env, he', hf⟩)).2
          rw [(N q hq).2.2] at ho; cases ho
  have ee : (hideAll s'.heap as).get? e = none := hideAll_none _ (.head _)
  refine wpAny_leaving_firstW (base := hideAll s'.heap as) (a0 := .ref t) Kp.stack (funFrames_hide Kp.frames hin) rfl he (fun b o q => of_hideAll _ q) ee rfl rfl rfl fun h' hL => ?_
  obtain ⟨k1, ⟨_, _, k2⟩, k3, k4⟩ := hL
  exact hQ h' ⟨⟨_, st, hl, ⟨k1, ee, k2, k3⟩, hideAll_none _ (.tail _ (.head _))⟩, Heap.TupAt.of_slots ⟨_, _, ht, rfl, rfl⟩ k4⟩ ((Heap.UpToSlots.of_keeps F.keep).trans k4)
end
end Mine
end
section
open PySem PySem.W PySem.Spec PySem.Calls PyProof.Rows PyProof.V
namespace Mine
theorem mem_fr {env : Env} {L b : Addr} {outer : List Env} (hf : env.frame = some L) (hm : b ∈ (env :: outer).filterMap (·.frame)) : b = L ∨ b ∈ outer.filterMap (·.frame) := by
  obtain ⟨e, he, hb⟩ := List.mem_filterMap.mp hm
  rcases List.mem_cons.mp he with rfl | he
  · rw [hf] at hb; exact .inl (Option.some.inj hb).symm
  · exact .inr (List.mem_filterMap.mpr ⟨e, he, hb⟩)
section
variable {M : Model} {A : Around} {E : Value → Shared → Prop} {s' : Shared} {base g g₂ h : Heap} {env : Env} {outer : List Env} {L e t C : Addr} {m : Str → Option Value} {Q : Unit → Shared → Prop} {news : List (Addr × Obj)}
theorem leave_excS {dx : Option Addr} {vs : List Value} (K' : Below A base outer g) (F : Fr g L s'.heap m) (N : News g L s'.heap news) (hne : ∀ q ∈ news, q.1 ≠ e ∧ q.1 ≠ t)
    (he : s'.heap.get? e = some (exObj C dx t)) (hge : g.get? e = none) (ht : s'.heap.get? t = some (tupO vs)) (hgt : g.get? t = none)
    (hQ : ∀ h', RaisedS base g outer e (.ref C) t vs news h' → g.UpToSlots h' → Q () { s' with heap := h' }) (hf : env.frame = some L) (hke : env.scope.kind = .function) :
    wpAny M (A.deeper env) (leaving env (.ref e)) Q E s' := by
  have Kp := pushX K' F hf hke
  have fm := K'.frames
  let as : List Addr := e :: t :: (env :: outer).filterMap (·.frame)
  have hin : ∀ env' ∈ (env :: outer), ∀ b, env'.frame = some b → b ∈ as := fun env' he b hb => List.mem_cons_of_mem _ (List.mem_cons_of_mem _ (List.mem_filterMap.mpr ⟨env', he, hb⟩))
  have st : base.StaysIn (hideAll s'.heap as) := fun b o q => hideAll_get _ (Kp.stays b o q) fun hm => by
    rcases List.mem_cons.mp hm with rfl | hm
    · rw [K'.stays _ _ q] at hge; cases hge
    · rcases List.mem_cons.mp hm with rfl | hm
      · rw [K'.stays _ _ q] at hgt; cases hgt
      · rw [(Kp.frames.mem hm).1] at q; cases q
  have sg : ∀ b o, g.get? b = some o → b ∉ outer.filterMap (·.frame) → (hideAll s'.heap as).get? b = some o := fun b o q nm => hideAll_get _ (F.keep b o q) fun hm => by
    rcases List.mem_cons.mp hm with rfl | hm
    · rw [q] at hge; cases hge
    · rcases List.mem_cons.mp hm with rfl | hm
      · rw [q] at hgt; cases hgt
      · rcases mem_fr hf hm with z | z
        · rw [z, kts_self F] at q; cases q
        · exact nm z
  have hl : ∀ q ∈ news, (hideAll s'.heap as).get? q.1 = some q.2 ∧ g.get? q.1 = none ∧ base.get? q.1 = none := fun q hq => by
    refine ⟨hideAll_get _ (N q hq).1 fun hm => ?_, (N q hq).2.2, fresh_of_stays K'.stays (N q hq).2.2⟩
    rcases List.mem_cons.mp hm with hm | hm
    · exact (hne q hq).1 hm
    · rcases List.mem_cons.mp hm with hm | hm
      · exact (hne q hq).2 hm
      · rcases mem_fr hf hm with z | z
        · exact (N q hq).2.1 z
        · obtain ⟨o, ho, _⟩ := (fm.mem z).2
          rw [(N q hq).2.2] at ho; cases ho
  have ee : (hideAll s'.heap as).get? e = none := hideAll_none _ (.head _)
  refine wpAny_leaving_firstW (base := hideAll s'.heap as) (a0 := .ref t) Kp.stack (funFrames_hide Kp.frames hin) hf he (fun b o q => of_hideAll _ q) ee rfl rfl rfl fun h' hL => ?_
  obtain ⟨k1, ⟨_, _, k2⟩, k3, k4⟩ := hL
  exact hQ h' ⟨⟨_, st, sg, hl, ⟨k1, ee, k2, k3⟩, hideAll_none _ (.tail _ (.head _))⟩, Heap.TupAt.of_slots ⟨_, _, ht, rfl, rfl⟩ k4⟩ ((Heap.UpToSlots.of_keeps F.keep).trans k4)
theorem leave_onX {cls : Value} {vs : List Value} (K : Below A base outer g) (F : Fr g L g₂ m) (R : RaisedS base g₂ (env :: outer) e cls t vs news s'.heap) (hsm : g₂.UpToSlots s'.heap)
    (hQ : ∀ h', RaisedS base g outer e cls t vs news h' → g.UpToSlots h' → Q () { s' with heap := h' }) (hf : env.frame = some L) :
    wpAny M (A.deeper env) (leaving env (.ref e)) Q E s' := by
  obtain ⟨⟨B, hB, hBG, hl, hfl, hnew⟩, htup⟩ := R
  exact wpAny_leaves_onW (Around.frames_deeper K.stack) hf hfl fun h' x1 x2 =>
    hQ h' ⟨⟨B, hB, fun b o q nm => hBG b o (F.keep b o q) (fun hm => by
      rcases mem_fr hf hm with z | z
      · rw [z, kts_self F] at q
        cases q
      · exact nm z), fun q hq => ⟨(hl q hq).1, kts_none F.keep (hl q hq).2.1, (hl q hq).2.2⟩, x1, hnew⟩, htup.of_slots x2⟩ ((Heap.UpToSlots.of_keeps F.keep).trans (hsm.trans x2))
end
section
variable {prog : Program} {w : World} {A₀ A : Around} {s : Shared} {base h₀ g₀ : Heap} {env : Env} {outer : List Env} {L : Addr} {m : Str → Option Value} {news : List (Addr × Obj)} {K : Frag} {p : Program} {loose : List Str} {mean : ExcName → Option Value} {mg mb : Str → Option Value}
    {R : Result → Shared → Prop} {name qual : Str} {params : Arguments} {body : List Stmt} {scope : Scope} {dV kV doc pm cdv ct oc : Value} {an od : Option Addr} {osl : Array (Option Value)} {f : Addr} {args : Args} {binds : List (Str × Value)}
theorem enterS (F : Fr h₀ L s.heap m) (N : News h₀ L s.heap news) :
    ∃ oL es ep, (hideAll s.heap (news.map (·.1))).get? L = some oL ∧ oL.data = .dict es ep ∧ (∀ h', h'.get? L = some oL → Heap.Ns h' L m) ∧ (∀ (sl : Array (Option Value)) h', h'.get? L = some { oL with slots := sl } → Heap.Ns h' L m) := by
  obtain ⟨oL, es, ep, hL, hLd, hLk, hLf⟩ := F.ns
  have nL : L ∉ news.map (·.1) := fun q => by
    obtain ⟨p, hp, e⟩ := List.mem_map.mp q
    exact (N p hp).2.1 e
  exact ⟨oL, es, ep, hideAll_get (news.map (·.1)) hL nL, hLd, fun h' e => ⟨oL, es, ep, e, hLd, hLk, hLf⟩, fun sl h' e => ⟨_, es, ep, e, hLd, hLk, hLf⟩⟩
theorem backS (B : Below A₀ base outer h₀) (F : Fr h₀ L s.heap m) (N : News h₀ L s.heap news) (XB : K.In base) (TB : Top p loose mean mg mb base) (D : KtsDicts (outer.filterMap (·.frame)) h₀)
    (T0 : KtsTurn (outer.filterMap (·.frame)) g₀ h₀) (hf : env.frame = some L) (st : h₀.StaysIn (hideAll s.heap (news.map (·.1)))) {v : Value} {s' : Shared}
    (hl : LeaveS ((env :: outer).filterMap (·.frame)) A₀ base outer K p loose mean mg mb g₀ h₀ L m (hideAll s.heap (news.map (·.1))) R v s') : R (.ok (.ret v)) s' := by
  obtain ⟨oL, es, ep, hLg, hLd, hN, hNs⟩ := enterS F N
  have nL₀ : h₀.get? L = none := kts_self F
  rcases hl with ⟨L', m', news', F', N', k⟩ | ⟨g', L', m', news', T', F', N', k⟩
  · refine k ⟨hN _ (F'.keep _ _ hLg), fun b o e => F'.keep b o (st b o e), F.above⟩ fun p hp => ⟨(N' p hp).1, fun q => ?_, ?_⟩
    · have := (N' p hp).2.2; rw [q, hLg] at this; cases this
    · cases q : h₀.get? p.1 with
      | none => rfl
      | some o => have := (N' p hp).2.2; rw [st _ _ q] at this; cases this
  obtain ⟨sl, hs⟩ := T'.up hLg
  obtain ⟨T₁, S₁⟩ := kts_turn_at (h := s'.heap) (fs := outer.filterMap (·.frame)) (g := h₀)
    (fun b hb => by
      obtain ⟨_, o, ho', _⟩ := B.frames.mem hb
      exact ⟨o, ho'⟩)
    (fun b o e nmem => F'.keep b o (T'.other b o (st b o e) (fun q => by
      rcases mem_fr hf q with z | z
      · rw [z, nL₀] at e
        cases e
      · exact nmem z)))
    (fun b o e hm => by
      obtain ⟨sl', hs'⟩ := T'.up (st b o e)
      exact ⟨sl', F'.keep _ _ hs'⟩)
  have B₃ : Below A₀ base outer (ktsHeap s'.heap (outer.filterMap (·.frame)) h₀) := ⟨B.stack, fun b o e => T₁.other b o (B.stays b o e) (fun hm => by
    rw [(B.frames.mem hm).1] at e
    cases e), B.frames.of_keeps fun b o e _ => by
    obtain ⟨sl', hs'⟩ := T₁.up e
    exact ⟨_, hs', rfl⟩⟩
  refine k _ (T0.trans T₁) ⟨hNs sl _ (F'.keep _ _ hs), S₁, by rw [T₁.size]; exact F.above⟩ (fun p hp => ⟨(N' p hp).1, fun q => ?_, ?_⟩) B₃ (XB.keeps B₃.stays) (TB.keeps B₃.stays) (D.turn T₁)
  · have := (N' p hp).2.2; rw [q, hs] at this; cases this
  · refine T₁.none_ _ ?_
    cases q : h₀.get? p.1 with
    | none => rfl
    | some o =>
      obtain ⟨sl', hs'⟩ := T'.up (st _ _ q)
      have := (N' p hp).2.2
      rw [hs'] at this
      cases this
theorem dictsS (F : Fr h₀ L s.heap m) (N : News h₀ L s.heap news) (D : KtsDicts (outer.filterMap (·.frame)) h₀) (hf : env.frame = some L) (st : h₀.StaysIn (hideAll s.heap (news.map (·.1)))) :
    KtsDicts ((env :: outer).filterMap (·.frame)) (hideAll s.heap (news.map (·.1))) := fun b hb => by
  obtain ⟨oL, es, ep, hLg, hLd, _, _⟩ := enterS F N
  rcases mem_fr hf hb with rfl | hb
  · exact ⟨oL, es, ep, hLg, hLd⟩
  · obtain ⟨o, es', n', ho', hd'⟩ := D b hb
    exact ⟨o, es', n', st b o ho', hd'⟩
theorem code_S (B : Below A₀ base outer h₀) (F : Fr h₀ L s.heap m) (X₀ : K.In h₀) (N : News h₀ L s.heap news) (T : Top p loose mean mg mb h₀) (XB : K.In base) (TB : Top p loose mean mg mb base) (D : KtsDicts (outer.filterMap (·.frame)) h₀)
    (T0 : KtsTurn (outer.filterMap (·.frame)) g₀ h₀) (hA : A.frames = some (env :: outer)) (hf : env.frame = some L) (hke : env.scope.kind = .function)
    (ho : K.lookup f = some ⟨oc, od, .func (fnOf name qual params body scope dV kV doc pm an cdv ct), osl⟩) (hcd : codeIn K cdv qual = true) (hroom : A.depth < recursionLimit)
    (hbind : BindsTo s (fnOf name qual params body scope dV kV doc pm an cdv ct) args binds) (hloc : ∀ y ∈ binds, scope.names.lookup y.1 = some .local)
    (h : ∀ g L' h₁, Fr h₀ L g m → Fr g L' h₁ (fun y => binds.reverse.lookup y) → News g L' h₁ news → Below A base (env :: outer) g → K.In g → Top p loose mean mg mb g → KtsDicts ((env :: outer).filterMap (·.frame)) g → (∀ p ∈ news, p.1 < L') →
      wpAny (model prog w) (A.deeper (envOf qual scope L' f cdv)) (execs body (envOf qual scope L' f cdv))
        (fun fl s' => LeaveS ((env :: outer).filterMap (·.frame)) A₀ base outer K p loose mean mg mb g₀ h₀ L m g R (match fl with | .ret v => v | _ => .none) s')
        (fun e s' => wpAny (model prog w) (A.deeper (envOf qual scope L' f cdv)) (leaving (envOf qual scope L' f cdv) e) (fun _ s'' => R (.error e) s'') (fun e' s'' => R (.error e') s'') s')
        { s with heap := h₁, toks := s.toks + binds.length })
    (hco : scope.isCoroutine = false) (hgen : scope.isGenerator = false) (hk : scope.kind = .function)
    (hcell : ∀ x ∈ scope.names, x.2 ≠ .cell) : codeAny (model prog w) A (.call (.ref f) args) R s := by
  have X := X₀.keeps F.keep
  obtain ⟨FG, BG, st, _⟩ := groundX (R := R) B F N hA hf hke
  refine codeAny_call_def (fd := fnOf name qual params body scope dV kV doc pm an cdv ct) (body := body) (binds := binds) hroom (X _ _ ho) rfl (T.nolimit.keeps F.keep) (codeRec_of X hcd) rfl hbind hcell hloc (fun h₁ hns hk₁ => ?_) hco hgen hk
  refine wpAny_mono (h _ s.heap.objs.size h₁ FG ⟨hns, fun b o e => hk₁ b o (of_hideAll _ e), Nat.le_of_eq (hideAll_size _ _)⟩
    (fun p hp => ⟨hk₁ _ _ (N p hp).1, Nat.ne_of_lt (Heap.lt_size (N p hp).1), hideAll_none _ (List.mem_map_of_mem hp)⟩) BG (X₀.keeps st) (T.keeps st) (dictsS F N D hf st) (fun p hp => Heap.lt_size (N p hp).1)) (fun fl s' hl => backS B F N XB TB D T0 hf st hl) fun _ _ y => y
theorem code_CS (B : Below A₀ base [] h₀) (F : Fr h₀ L s.heap m) (X₀ : K.In h₀) (N : News h₀ L s.heap news) (T : Top p loose mean mg mb h₀) (hA : A.frames = some [env]) (hf : env.frame = some L) (hke : env.scope.kind = .function)
    (ho : K.lookup f = some ⟨oc, od, .func (fnOf name qual params body scope dV kV doc pm an cdv ct), osl⟩) (hcd : codeIn K cdv qual = true) (hroom : A.depth < recursionLimit)
    (hbind : BindsTo s (fnOf name qual params body scope dV kV doc pm an cdv ct) args binds) (hkind : (binds.all fun y => scope.names.lookup y.1 == some .local || scope.names.lookup y.1 == some .cell) = true)
    (hnd : ((cellsFrom 0 scope.names []).map (·.1)).Nodup)
    (h : ∀ g L' h₁ tk cells, Fr h₀ L g m → Fr g L' h₁ (bindL (envOfC qual scope L' f cdv).kindOf binds fun _ => none) → News g L' h₁ (cells ++ news) →
      CellsAre (bindC (envOfC qual scope L' f cdv).kindOf binds fun _ => none) (cellsFrom (L' + 1) scope.names []) cells → Below A base [env] g → K.In g → Top p loose mean mg mb g → KtsDicts ([env].filterMap (·.frame)) g → (∀ p ∈ news, p.1 < L') →
      wpAny (model prog w) (A.deeper (envOfC qual scope L' f cdv)) (execs body (envOfC qual scope L' f cdv))
        (fun fl s' => LeaveS0 ([env].filterMap (·.frame)) h₀ L m g R (match fl with | .ret v => v | _ => .none) s')
        (fun e s' => wpAny (model prog w) (A.deeper (envOfC qual scope L' f cdv)) (leaving (envOfC qual scope L' f cdv) e) (fun _ s'' => R (.error e) s'') (fun e' s'' => R (.error e') s'') s')
        { s with heap := h₁, toks := tk })
    (hco : scope.isCoroutine = false) (hgen : scope.isGenerator = false) (hk : scope.kind = .function) : codeAny (model prog w) A (.call (.ref f) args) R s := by
  have X := X₀.keeps F.keep
  obtain ⟨FG, BG, st, _⟩ := groundX (R := R) B F N hA hf hke
  refine codeAny_call_function hroom (X _ _ ho) rfl hco hgen rfl (codeRec_of X hcd) (hbind _ _ _ _ ?_)
  refine wpAny_newFunctionEnv_cells hk (kindsX hkind _) fun env' he s' x => ?_
  subst he
  refine ⟨(T.nolimit.keeps F.keep).keeps x.toInCall.keep, codeAny_func ?_⟩
  obtain ⟨h₁, tk, rfl, _⟩ := x.done
  have hk₁ := x.toInCall.keep
  obtain ⟨cells, NC, Y⟩ := Cl.news (h₀ := s.heap) (Nat.le_refl _) fun n c hm => ⟨x.cell n c (lookup_of_mem_nodup (cellsFrom_names scope.names 0 (s.heap.objs.size + 1) [] [] rfl ▸ hnd) hm), x.above n c hm⟩
  refine wpAny_mono (h _ s.heap.objs.size h₁ tk cells FG ⟨x.toInCall.ns, fun b o e => hk₁ b o (of_hideAll _ e), Nat.le_of_eq (hideAll_size _ _)⟩ (fun p hp => ?_) Y BG (X₀.keeps st) (T.keeps st) (dictsS (outer := []) F N ktsDicts_nil hf st) (fun p hp => Heap.lt_size (N p hp).1)) (fun fl s' hl => ?_) fun _ _ y => y
  · rcases List.mem_append.mp hp with hp | hp
    · refine ⟨(NC p hp).1, (NC p hp).2.1, ?_⟩
      cases q : (hideAll s.heap (news.map (·.1))).get? p.1 with
      | none => rfl
      | some o => have := of_hideAll _ q; rw [(NC p hp).2.2] at this; cases this
    · exact ⟨hk₁ _ _ (N p hp).1, Nat.ne_of_lt (Heap.lt_size (N p hp).1), hideAll_none _ (List.mem_map_of_mem hp)⟩
  · obtain ⟨g', L', m', news', T', F', N', k⟩ := hl
    obtain ⟨oL, es, ep, hLg, hLd, hN, hNs⟩ := enterS F N
    have nL₀ : h₀.get? L = none := kts_self F
    obtain ⟨sl, hs⟩ := T'.up hLg
    refine k ⟨hNs sl _ (F'.keep _ _ hs), fun b o e => F'.keep b o (T'.other b o (st b o e) (fun q => by
      rcases mem_fr hf q with z | z
      · rw [z, nL₀] at e
        cases e
      · simp at z)), F.above⟩ fun p hp => ⟨(N' p hp).1, fun q => ?_, ?_⟩
    · have := (N' p hp).2.2; rw [q, hs] at this; cases this
    · cases q : h₀.get? p.1 with
      | none => rfl
      | some o =>
        obtain ⟨sl', hs'⟩ := T'.up (st _ _ q)
        have := (N' p hp).2.2
        rw [hs'] at this
        cases this
end
end Mine
end
section
open PySem PySem.W PySem.Spec PySem.Calls PyProof.Rows PyProof.V
namespace Mine
theorem ns_some_of {K : Frag} {h : Heap} {N : Addr} {mg : Str → Option Value} {n : Str} {v : Value} (X : K.In h) (G : h.Ns N mg) (e : nsIn K N n = some (some v)) : mg n = some v := by
  obtain ⟨o, es, ep, ho, hd, _, hf⟩ := G
  unfold nsIn at e
  split at e
  · rename_i c d es' n' sl q
    have := X _ _ q
    rw [ho] at this
    cases this
    cases hd
    split at e
    · rename_i en he
      cases e
      rw [← hf]
      unfold nsFind findBy
      rw [← Array.find?_toList, he]
      rfl
    · split at e <;> cases e
  · cases e
theorem ne_of_all {news news' : List (Addr × Obj)} {d : Addr} (h : ∀ p ∈ news', p.1 < d) (hs : ∀ p ∈ news, p ∈ news') : ∀ p ∈ news, p.1 ≠ d := fun p hp => Nat.ne_of_lt (h p (hs p hp))
local macro_rules | `(tactic| k_all) => `(tactic| (refine' ne_of_all ?h ?m; (case h => assumption); (case m => (intro p hp; simp only [List.mem_cons, hp, or_true]))))
theorem meta_exc : typeOf (.type "Exception") = pure (.type "type") := by kernel_rfl
local macro_rules | `(tactic| walk_at "getMethod type:Exception") => `(tactic| (k_here; refine' method_type ?F ?X ?m (by decide +kernel) ?e ?h ?_; (case F => k_asm); (case X => k_asm); (case m => exact meta_exc); (case e => k_dflt k_is); (case h => k_handed)))
local macro_rules | `(tactic| walk_at "call builtin:Exception.__init__") => `(tactic| (k_here; (k_dflt (refine' exc_init_K PySem.F.excBase_Exception ?hB ?F ?X ?N ?U ?hC ?hr ?_; (case F => k_asm); (case X => k_asm); (case N => k_asm); (case U => k_updF); (case hC => k_is); (case hB => rfl); (case hr => (rw [sizeLine_eq]; exact Nat.le_of_ble_eq_true rfl)))); intro t₁ h' F' N' hlt; (try dsimp only at N'); (have l1 := hlt); (try k_lt l1)))
local macro_rules | `(tactic| walk_at "setAttr ref") => `(tactic| (k_here; first | (k_dflt (refine' set_exc0 ?F ?X ?N ?U ?hs ?hc ?hm ?hh ?ha ?_; (case F => k_asm); (case X => k_asm); (case N => k_asm); (case U => k_updF); (case hs => k_is); (case hc => k_is); (case hm => rfl); (case hh => rfl); (case ha => k_is)); intro dx' h' tk1 tk' F' N' hlt; (try dsimp only at N'); (have l1 := hlt); (try k_lt l1)) | (k_dflt (refine' set_exc1 ?F ?X ?N ?hx ?U ?hs ?hc ?hm ?hh ?ha ?hl ?e ?hz ?_; (case F => k_asm); (case X => k_asm); (case N => k_asm); (case hx => k_mem); (case U => k_updF); (case hs => k_is); (case hc => k_is); (case hm => rfl); (case hh => rfl); (case ha => k_is); (case hl => rfl); (case e => exact fun _ => rfl); (case hz => exact fun _ => Nat.le_of_ble_eq_true rfl)); intro h' tk1 tk' F' N'; (try dsimp only at N'))))
theorem news_tail {h₀ h' : Heap} {L : Addr} {q : Addr × Obj} {l : List (Addr × Obj)} (N : News h₀ L h' (q :: l)) : News h₀ L h' l := fun p hp => N p (List.mem_cons_of_mem _ hp)
theorem ex_ne {news : List (Addr × Obj)} {e t₁ : Addr} {o : Obj} (h1 : ∀ p ∈ news, p.1 ≠ e) (h2 : ∀ p ∈ (e, o) :: news, p.1 < t₁) : ∀ q ∈ news, q.1 ≠ e ∧ q.1 ≠ t₁ := fun q hq => ⟨h1 q hq, Nat.ne_of_lt (h2 q (List.mem_cons_of_mem _ hq))⟩
theorem die_K : ∀ {w : World} {p : Program} {loose : List Str} {mean : ExcName → Option Value} {mg mb : Str → Option Value}
    {dp un : Nat} {gd : Option (List Code)} {cn : Str} {cs : Scope} {a : Addr} {ccd : Value} {cl : List (Str × Addr)} {outer : List Env} {A₀ : Around} {base h₀ : Heap} {L : Addr} {m : Str → Option Value} {s : Shared} {Q E : Value → Shared → Prop}
    {x : Str} {t : Tok} {news : List (Addr × Obj)},
    Below A₀ base outer h₀ → Fr h₀ L s.heap m → (hd.heap_1 w.params).In h₀ → News h₀ L s.heap news → Top p loose mean mg mb h₀ → cs.kind = .function →
    dp + 10 < recursionLimit → un + 100 < cLine →
    (∀ e t₁ dx tt h' tk', Fr h₀ L h' m → News h₀ L h' ((t₁, tupO [.str (Str.ofString "died") tt]) :: (e, exObj 51 (some dx) t₁) :: news) → (∀ q ∈ news, q.1 ≠ e ∧ q.1 ≠ t₁) → Q (.ref e) { s with heap := h', toks := tk' }) →
    wpAny (model PySem.Challenge.rw_qz0094_01.row.prog w) (ktrTop dp un gd cn cs L a ccd cl outer) (call (.ref 51) [.str x t]) Q E s := by
  k_fill
  intro w p loose mean mg mb dp un gd cn cs a ccd cl outer A₀ base h₀ L m s Q E x t news B F X N T hk hdp hun hret
  refine' exc_make (K := hd.heap_1 w.params) (fI := 48) PySem.F.excBase_Exception ?hB ?hAt ?hNm F X N ?hC ?hn ?hi ?hfI ?hfc ?hr ?_
  case hC => k_is
  case hn => exact Heap.Ns.of_isNs (isNs_of_in X (by kernel_rfl))
  case hi => exact ns_some_of X (Heap.Ns.of_isNs (isNs_of_in X (by kernel_rfl))) (by k_is)
  case hfI => k_is
  case hfc => rfl
  case hB => rfl
  case hAt => rfl
  case hNm => rfl
  case hr => (rw [sizeLine_eq]; exact Nat.le_of_ble_eq_true rfl)
  intro e t₀ h' F' N' hne
  refine wpAny_call ?_
  k_dflt cell_enter
  k_steps
  all_goals exact hret _ _ _ _ _ _ (by assumption) (news_tail (by assumption)) (ex_ne hne (by assumption))
end Mine
end
section
open PySem PySem.W PySem.Spec PySem.Calls PyProof.Rows PyProof.V
namespace Mine
structure RaiseOk (h₀ : Heap) (E : Value → Shared → Prop) (v : Value) (s₁ : Shared) : Prop where
  out : ∃ e dx t, v = .ref e ∧ (∀ b o, h₀.get? b = some o → s₁.heap.get? b = some o) ∧ s₁.heap.get? e = some (exObj 51 dx t) ∧ E (.ref e) s₁
section
variable {prog : Program} {w : World} {A : Around} {K : Frag} {C N₁ L : Addr} {s : Shared} {h₀ : Heap} {m : Str → Option Value} {news : List (Addr × Obj)} {E : Value → Shared → Prop}
variable {nm q : Str} {bs bm bmB : List Value} {hdct : Bool} {sn : List Str} {sub : List Value} {ab : Bool} {col : Option Bool} {dd : Option Addr} {k0 k1 k2 k3 k5 : Option Value} {B newId initId : String}
theorem raise_die {e₀ : PySem.Expr} {env : Env} {pos : Pos} {Q : Flow → Shared → Prop} (X : K.In h₀) (hC : K.lookup 51 = some (excClassObj nm q 51 N₁ bs bm hdct sn sub ab col dd k0 k1 k2 k3 k5 newId)) (hbase : bm.contains (.type "BaseException") = true) (hh : A.handled = none)
    (h : wpAny (model prog w) A (eval e₀ env) (fun v s₁ => RaiseOk h₀ E v s₁) E s) :
    wpAny (model prog w) A (exec (.Raise (some e₀) none pos) env) Q E s :=
  raise_gen hbase hh (wpAny_mono h (fun v s₁ ⟨e, dx, t, h1, h2, h3, h4⟩ => ⟨e, dx, t, h1, h2 _ _ (X _ _ hC), h3, h4⟩) fun _ _ y => y)
theorem RaiseOk.of {e t₁ dx : Addr} {vs : List Value} {s₁ : Shared} (F : Fr h₀ L s₁.heap m) (N : News h₀ L s₁.heap ((t₁, tupO vs) :: (e, exObj 51 (some dx) t₁) :: news)) (h : E (.ref e) s₁) : RaiseOk h₀ E (.ref e) s₁ :=
  ⟨e, some dx, t₁, rfl, F.keep, (N (e, _) (.tail _ (.head _))).1, h⟩
end
section
variable {M : Model} {A : Around} {E : Value → Shared → Prop} {s' : Shared} {base g : Heap} {env : Env} {outer : List Env} {L e t : Addr} {m : Str → Option Value} {Q : Unit → Shared → Prop} {news : List (Addr × Obj)}
theorem leave_first {dx : Addr} {vs : List Value} (K' : Below A base outer g) (F : Fr g L s'.heap m) (N : News g L s'.heap ((t, tupO vs) :: (e, exObj 51 (some dx) t) :: news)) (hne : ∀ q ∈ news, q.1 ≠ e ∧ q.1 ≠ t)
    (hQ : ∀ h', RaisedS base g outer e (.ref 51) t vs news h' → g.UpToSlots h' → Q () { s' with heap := h' }) (hf : env.frame = some L) (hke : env.scope.kind = .function) :
    wpAny M (A.deeper env) (leaving env (.ref e)) Q E s' :=
  leave_excS K' F (news_tail (news_tail N)) hne (N (e, _) (.tail _ (.head _))).1 (N (e, _) (.tail _ (.head _))).2.2 (N (t, _) (.head _)).1 (N (t, _) (.head _)).2.2 hQ hf hke
end
end Mine
end
section
open PySem PySem.W PySem.Spec PySem.Calls PyProof.Rows PyProof.V
namespace Mine
def hexs (n : Int) : Str := if n = 7 then Str.ofString "7" else if n = 47 then Str.ofString "2f" else if n = 87 then Str.ofString "57" else if n = 127 then Str.ofString "7f" else Str.ofString "a7"
def Num (n : Int) : Prop := n = 7 ∨ n = 47 ∨ n = 87 ∨ n = 127 ∨ n = 167
theorem ret_str {Q : Value → Shared → Prop} {h₀ h' : Heap} {L : Addr} {m : Str → Option Value} {news : List (Addr × Obj)} {s : Shared} {x y : Str} {t : Tok} {tk' : Nat}
    (hret : ∀ (t : Tok) (h' : Heap) (tk' : Nat), Fr h₀ L h' m → News h₀ L h' news → Q (.str x t) { s with heap := h', toks := tk' }) (e : y = x) (F : Fr h₀ L h' m) (N : News h₀ L h' news) : Q (.str y t) { s with heap := h', toks := tk' } := by
  subst e
  exact hret t h' tk' F N
theorem lhex_K : ∀ {w : World} {p : Program} {loose : List Str} {mean : ExcName → Option Value} {mg mb : Str → Option Value}
    {dp un : Nat} {gd : Option (List Code)} {cn : Str} {cs : Scope} {a : Addr} {ccd : Value} {cl : List (Str × Addr)} {outer : List Env} {A₀ : Around} {base h₀ : Heap} {L : Addr} {m : Str → Option Value} {s : Shared} {Q E : Value → Shared → Prop}
    {n : Int} {tk : Tok} {news : List (Addr × Obj)},
    Below A₀ base outer h₀ → Fr h₀ L s.heap m → (hd.heap_1 w.params).In h₀ → News h₀ L s.heap news → Top p loose mean mg mb h₀ → cs.kind = .function →
    dp + 10 < recursionLimit → un + 100 < cLine → Num n →
    (∀ (t : Tok) (h' : Heap) (tk' : Nat), Fr h₀ L h' m → News h₀ L h' news → Q (.str (hexs n) t) { s with heap := h', toks := tk' }) →
    wpAny (model PySem.Challenge.rw_qz0094_01.row.prog w) (ktrTop dp un gd cn cs L a ccd cl outer) (call (.ref 426) [.int n tk]) Q E s := by
  k_fill
  intro w p loose mean mg mb dp un gd cn cs a ccd cl outer A₀ base h₀ L m s Q E n tk news B F X N T hk hdp hun hn hret
  refine wpAny_call ?_
  k_dflt cell_enter
  rcases hn with rfl | rfl | rfl | rfl | rfl
  all_goals k_steps
  all_goals first | exact ret_str hret (by decide +kernel) (by assumption) (by assumption)
theorem hex_K : ∀ (w : World) (p : Program) (loose : List Str) (mean : ExcName → Option Value) (mg mb : Str → Option Value)
    (dp un : Nat) (gd : Option (List Code)) (cn : Str) (cs : Scope) (a : Addr) (ccd : Value) (cl : List (Str × Addr)) (outer : List Env) (A₀ : Around) (base h₀ : Heap) (L : Addr) (m : Str → Option Value) (s : Shared) (Q E : Value → Shared → Prop)
    (n : Int) (tk : Tok) (news : List (Addr × Obj)),
    Below A₀ base outer h₀ → Fr h₀ L s.heap m → (hd.heap_1 w.params).In h₀ → News h₀ L s.heap news → Top p loose mean mg mb h₀ → cs.kind = .function →
    dp + 10 < recursionLimit → un + 100 < cLine → Num n →
    (∀ (t : Tok) (h' : Heap) (tk' : Nat), Fr h₀ L h' m → News h₀ L h' news → Q (.str (hexs n) t) { s with heap := h', toks := tk' }) →
    wpAny (model PySem.Challenge.rw_qz0094_01.row.prog w) (ktrTop dp un gd cn cs L a ccd cl outer) (call (.ref 233) [.int n tk]) Q E s := by
  k_fill
  intro w p loose mean mg mb dp un gd cn cs a ccd cl outer A₀ base h₀ L m s Q E n tk news B F X N T hk hdp hun hn hret
  refine wpAny_call ?_
  k_dflt cell_enter
  rcases hn with rfl | rfl | rfl | rfl | rfl
  all_goals k_steps
  all_goals first | exact ret_str hret (by decide +kernel) (by assumption) (by assumption)
end Mine
end
section
open PySem PySem.W PySem.Spec PySem.Calls PyProof.Rows PyProof.V
namespace Mine
def numOf : Value → Int | .int i _ => i | _ => 2
theorem len_1 : (Str.ofString "HASH").length = 4 := by decide +kernel
theorem len_2 : (Str.ofString "(0x").length = 3 := by decide +kernel
theorem len_3 : (Str.ofString ")").length = 1 := by decide +kernel
theorem len_4 : (Str.ofString "=").length = 1 := by decide +kernel
theorem len_5 : (Str.ofString "HASH(0x").length = 7 := by decide +kernel
theorem len_6 : (Str.ofString "").length = 0 := by decide +kernel
theorem len_hexs (n : Int) : 1 ≤ (hexs n).length ∧ (hexs n).length ≤ 2 := by
  unfold hexs
  split
  · decide +kernel
  · split
    · decide +kernel
    · split
      · decide +kernel
      · split <;> decide +kernel
theorem len_name {x : Str} (h : x = Str.ofString "X" ∨ x = Str.ofString "AA" ∨ x = Str.ofString "Dog" ∨ x = Str.ofString "Old") : 1 ≤ x.length ∧ x.length ≤ 3 := by
  rcases h with rfl | rfl | rfl | rfl <;> decide +kernel
def baseT (n : Int) : Str := (Str.ofString "HASH(0x" ++ hexs n) ++ Str.ofString ")"
def textOf (lv : Value) (n : Int) : Str := match lv with | .str x _ => (x ++ Str.ofString "=") ++ baseT n | _ => baseT n
theorem app_assoc (a b c : Str) : (a ++ b) ++ c = a ++ (b ++ c) := PySem.Str.ext' (by simp only [PySem.Str.cps_append, Array.append_assoc])
theorem txt0 (n : Int) : ((Str.ofString "HASH" ++ Str.ofString "(0x") ++ hexs n) ++ Str.ofString ")" = textOf .none n := by
  show _ = baseT n
  rw [show Str.ofString "HASH" ++ Str.ofString "(0x" = Str.ofString "HASH(0x" from by decide +kernel]; rfl
theorem txt1 (x : Str) (t : Tok) (n : Int) : (x ++ Str.ofString "=") ++ (((Str.ofString "HASH" ++ Str.ofString "(0x") ++ hexs n) ++ Str.ofString ")") = textOf (.str x t) n := by
  rw [txt0]; rfl
theorem txt2 (n : Int) : ((Str.ofString "" ++ Str.ofString "HASH(0x") ++ hexs n) ++ Str.ofString ")" = textOf .none n := by
  show _ = baseT n
  rw [show Str.ofString "" ++ Str.ofString "HASH(0x" = Str.ofString "HASH(0x" from by decide +kernel]; rfl
theorem txt3 (x : Str) (t : Tok) (n : Int) : (((x ++ Str.ofString "=") ++ Str.ofString "HASH(0x") ++ hexs n) ++ Str.ofString ")" = textOf (.str x t) n := by
  show _ = (x ++ Str.ofString "=") ++ baseT n
  unfold baseT
  rw [app_assoc, app_assoc, app_assoc, app_assoc, app_assoc]
theorem len_text {lv : Value} (n : Int) (h : OptV lv) : 9 ≤ (textOf lv n).length ∧ (textOf lv n).length ≤ 14 := by
  have := len_hexs n
  rcases h with rfl | ⟨x, t, rfl, hx⟩
  · simp only [textOf, baseT, PySem.Str.length_append, len_5, len_3]; omega
  · have := len_name hx
    simp only [textOf, baseT, PySem.Str.length_append, len_5, len_3, len_4]; omega
local macro_rules | `(tactic| walk_at "binaryOp Add str str") => `(tactic| (k_here; (with_reducible show wpAny _ _ (binaryOp Operator.Add (Value.str _ _) (Value.str _ _)) _ _ _); (refine' PyProof.Rows.add_str ?_ ?sz; (case sz => (rw [sizeLine_eq]; (try simp only [PySem.Str.length_append, len_1, len_2, len_3, len_4, len_5, len_6]); omega))); intro _ _; walk_say "ADDED"))
local macro_rules | `(tactic| walk_at "call ref") => `(tactic| (k_here; (with_reducible show wpAny _ _ (call (Value.ref 233) _) _ _ _); (k_dflt (refine' hex_K _ _ _ _ _ _ _ _ _ _ _ _ _ _ _ _ _ _ _ _ _ _ _ _ _ _ ?B ?F ?X ?N ?T ?hk ?hdp ?hun ?hn ?_; (case F => k_asm); (case N => k_asm); (case B => assumption); (case X => k_asm); (case T => assumption); (case hk => first | exact rfl | assumption); (case hdp => ktr_room); (case hun => ktr_units); (case hn => assumption))); intro t h' tk' F' N'; walk_say "HEX"))
theorem totext_K : ∀ (w : World) (p : Program) (loose : List Str) (mean : ExcName → Option Value) (mg mb : Str → Option Value)
    (dp un : Nat) (gd : Option (List Code)) (cn : Str) (cs : Scope) (a : Addr) (ccd : Value) (cl : List (Str × Addr)) (outer : List Env) (A₀ : Around) (base h₀ : Heap) (L : Addr) (m : Str → Option Value) (s : Shared) (Q E : Value → Shared → Prop)
    (r dr tb dt : Nat) (lv : Value) (n : Int) (a1 a2 b1 b2 b3 b4 b5 b6 b7 b8 b9 tn : Tok) (x2 c2 c4 c5 c6 c7 c8 c9 : Value) (news : List (Addr × Obj)),
    Below A₀ base outer h₀ → Fr h₀ L s.heap m → (hd.heap_1 w.params).In h₀ →
    News h₀ L s.heap ((r, instObj 215 dr) :: (dr, dictOf [ent w "target" a1 (.ref tb), ent w "is_weak" a2 x2] 2) :: (tb, instObj 157 dt) ::
      (dt, dictOf [ent w "number" b1 (.int n tn), ent w "count" b2 c2, ent w "blessed" b3 lv, ent w "weak" b4 c4, ent w "is_destroyed" b5 c5, ent w "is_freed" b6 c6, ent w "table" b7 c7, ent w "at" b8 c8, ent w "tied" b9 c9] 9) :: news) →
    Top p loose mean mg mb h₀ → cs.kind = .function →
    dp + 20 < recursionLimit → un + 200 < cLine → OptV lv → Num n →
    (∀ (t : Tok) (h' : Heap) (tk' : Nat), Fr h₀ L h' m → News h₀ L h' news → Q (.str (textOf lv n) t) { s with heap := h', toks := tk' }) →
    wpAny (model PySem.Challenge.rw_qz0094_01.row.prog w) (ktrTop dp un gd cn cs L a ccd cl outer) (call (.ref 254) [.ref r]) Q E s := by
  k_fill
  intro w p loose mean mg mb dp un gd cn cs a ccd cl outer A₀ base h₀ L m s Q E r dr tb dt lv n a1 a2 b1 b2 b3 b4 b5 b6 b7 b8 b9 tn x2 c2 c4 c5 c6 c7 c8 c9 news B F X N T hk hdp hun hlv hn hret
  have hhx := len_hexs n
  rcases hlv with rfl | ⟨x, t, rfl, hx⟩
  · refine wpAny_call ?_
    k_dflt cell_enter
    k_steps
    all_goals first | exact ret_str hret (txt0 n) (by assumption) (fun p hp => (by assumption : News _ _ _ _) p (by simp [hp]))
  · have hxl := len_name hx
    refine wpAny_call ?_
    k_dflt cell_enter
    k_steps
    all_goals first | exact ret_str hret (txt1 x t n) (by assumption) (fun p hp => (by assumption : News _ _ _ _) p (by simp [hp]))
end Mine
end
section
open PySem PySem.W PySem.Spec PySem.Calls PyProof.Rows PyProof.V
namespace Mine
def OldV (v : Value) : Prop := v = .none ∨ ∃ t, v = .str (Str.ofString "Old") t
theorem OldV.opt {v : Value} (h : OldV v) : OptV v := by
  rcases h with rfl | ⟨t, rfl⟩
  · exact Or.inl rfl
  · exact Or.inr ⟨_, _, rfl, Or.inr (Or.inr (Or.inr rfl))⟩
theorem OldV.handed {v : Value} (h : OldV v) : handedIn v = true := h.opt.handed
theorem oldv_all {ta : Tok} : ∀ x ∈ [Value.none, .str (Str.ofString "Old") ta], OldV x := by
  intro x hx
  simp only [List.mem_cons, List.not_mem_nil, or_false] at hx
  rcases hx with rfl | rfl
  · exact Or.inl rfl
  · exact Or.inr ⟨_, rfl⟩
def lastOf (nv bv : Value) : Value := match nv with | .none => bv | x => x
structure LastV (lv nv bv : Value) : Prop where
  eq : lv = lastOf nv bv
  opt : OptV lv
theorem lastOf_opt {nv bv : Value} (h : OptV nv) (h2 : OldV bv) : OptV (lastOf nv bv) := by
  rcases h with rfl | ⟨x, t, rfl, hx⟩
  · exact h2.opt
  · exact Or.inr ⟨x, t, rfl, hx⟩
def timesOf (cv : Value) : Int := max (numOf cv) 0
structure TimesV (T : Int) (cv : Value) : Prop where
  eq : T = timesOf cv
  lo : numOf cv < 1 → T = 0
  hi : 1 ≤ numOf cv → T = numOf cv
  nn : 0 ≤ T
  up : T ≤ 999
theorem count_bd {cv : Value} (h : CountV cv) : -1 ≤ numOf cv ∧ numOf cv ≤ 999 := by
  rcases h with ⟨i, t, rfl, hi⟩ | ⟨t, rfl⟩
  · show -1 ≤ i ∧ i ≤ 999; omega
  · show (-1 : Int) ≤ 2 ∧ (2 : Int) ≤ 999; omega
theorem timesV_of {cv : Value} (h : CountV cv) : TimesV (timesOf cv) cv := by
  have := count_bd h
  refine ⟨rfl, ?_, ?_, ?_, ?_⟩ <;> unfold timesOf <;> omega
section
variable {M : Model} {A : Around} {E : Value → Shared → Prop} {s : Shared} {env : Env} {h₀ : Heap} {L : Addr} {m : Str → Option Value} {news : List (Addr × Obj)} {e : PySem.Expr} {Q : Value → Shared → Prop}
theorem cut_isn {cv : Value} {T : Sem Value} (hc : CountV cv) (_F : Fr h₀ L s.heap m) (_N : News h₀ L s.heap news)
    (h1 : ∀ i t, cv = .int i t → wpAny M A T (fun v s' => Cut (fun v => v = .bool false) h₀ L m news s v s') E s)
    (h2 : ∀ t, cv = .str (Str.ofString "2x") t → wpAny M A T (fun v s' => Cut (fun v => v = .bool false) h₀ L m news s v s') E s)
    (h3 : ∀ h' tk', Fr h₀ L h' m → News h₀ L h' news → Q (.bool false) { s with heap := h', toks := tk' }) : wpAny M A T Q E s := by
  rcases hc with ⟨i, t, rfl, hi⟩ | ⟨t, rfl⟩
  · refine wpAny_mono (h1 i t rfl) (fun v s' ⟨hv, h', tk', e, F', N'⟩ => ?_) fun _ _ h => h
    subst hv e; exact h3 h' tk' F' N'
  · refine wpAny_mono (h2 t rfl) (fun v s' ⟨hv, h', tk', e, F', N'⟩ => ?_) fun _ _ h => h
    subst hv e; exact h3 h' tk' F' N'
theorem cut_last {nv bv : Value} (hb : OldV bv) (hn : OptV nv) (F : Fr h₀ L s.heap m) (N : News h₀ L s.heap news)
    (h1 : nv = .none → wpAny M A (eval e env) (fun v s' => Cut (fun v => v = bv) h₀ L m news s v s') E s)
    (h2 : ∀ x t, nv = .str x t → wpAny M A (eval e env) (fun v s' => Cut (fun v => v = .str x t) h₀ L m news s v s') E s)
    (h3 : ∀ lv h' tk', LastV lv nv bv → handedIn lv = true → Fr h₀ L h' m → News h₀ L h' news → Q lv { s with heap := h', toks := tk' }) : wpAny M A (eval e env) Q E s := by
  have ho := lastOf_opt hn hb
  rcases hn with rfl | ⟨x, t, rfl, hx⟩
  · exact cut_eval (fun v => v = bv) F N (h1 rfl) fun v h' tk' hv F' N' => by subst hv; exact h3 _ h' tk' ⟨rfl, ho⟩ ho.handed F' N'
  · exact cut_eval (fun v => v = .str x t) F N (h2 x t rfl) fun v h' tk' hv F' N' => by subst hv; exact h3 _ h' tk' ⟨rfl, ho⟩ ho.handed F' N'
theorem cut_text {lv nv bv : Value} {n : Int} (hl : LastV lv nv bv) (_hn : Num n) (F : Fr h₀ L s.heap m) (N : News h₀ L s.heap news)
    (h1 : lv = .none → wpAny M A (eval e env) (fun v s' => Cut (fun v => ∃ t, v = .str (textOf .none n) t) h₀ L m news s v s') E s)
    (h2 : ∀ x t, lv = .str x t → 1 ≤ x.length → x.length ≤ 3 → wpAny M A (eval e env) (fun v s' => Cut (fun v => ∃ t', v = .str (textOf (.str x t) n) t') h₀ L m news s v s') E s)
    (h3 : ∀ T t h' tk', T = textOf lv n → 9 ≤ T.length → T.length ≤ 14 → Fr h₀ L h' m → News h₀ L h' news → Q (.str T t) { s with heap := h', toks := tk' }) : wpAny M A (eval e env) Q E s := by
  have ho := hl.opt
  have hlen := len_text n ho
  rcases ho with rfl | ⟨x, t, rfl, hx⟩
  · exact cut_eval _ F N (h1 rfl) fun v h' tk' hv F' N' => by obtain ⟨t, rfl⟩ := hv; exact h3 _ t h' tk' rfl hlen.1 hlen.2 F' N'
  · have hxl := len_name hx
    exact cut_eval _ F N (h2 x t rfl hxl.1 hxl.2) fun v h' tk' hv F' N' => by obtain ⟨t, rfl⟩ := hv; exact h3 _ t h' tk' rfl hlen.1 hlen.2 F' N'
theorem cut_times {cv : Value} (hc : CountV cv) (F : Fr h₀ L s.heap m) (N : News h₀ L s.heap news)
    (h1 : ∀ i t, cv = .int i t → wpAny M A (eval e env) (fun v s' => Cut (fun v => ∃ t', v = .int (max i 0) t') h₀ L m news s v s') E s)
    (h2 : ∀ t, cv = .str (Str.ofString "2x") t → wpAny M A (eval e env) (fun v s' => Cut (fun v => ∃ t', v = .int 2 t') h₀ L m news s v s') E s)
    (h3 : ∀ T t h' tk', TimesV T cv → Fr h₀ L h' m → News h₀ L h' news → Q (.int T t) { s with heap := h', toks := tk' }) : wpAny M A (eval e env) Q E s := by
  have ht := timesV_of hc
  rcases hc with ⟨i, t, rfl, hi⟩ | ⟨t, rfl⟩
  · exact cut_eval _ F N (h1 i t rfl) fun v h' tk' hv F' N' => by obtain ⟨t, rfl⟩ := hv; exact h3 _ t h' tk' ht F' N'
  · exact cut_eval _ F N (h2 t rfl) fun v h' tk' hv F' N' => by obtain ⟨t, rfl⟩ := hv; exact h3 _ t h' tk' ht F' N'
end
section
variable {prog : Program} {w : World} {A : Around} {E : Value → Shared → Prop} {s : Shared} {x : Str} {t u : Tok} {Q : Value → Shared → Prop}
theorem mul_short {i : Int} (hx : x.length ≤ 14) (hlo : 0 ≤ i) (hhi : i ≤ 999) (h : ∀ t' k, Q (.str (Txt.mul x i) t') { s with toks := k }) :
    wpAny (model prog w) A (binaryOp .Mult (.str x t) (.int i u)) Q E s :=
  SB.mul (mulOk_of 16 1048576 (by omega) (by omega) (by omega) (by decide) (by decide)) fun t' k => h t' k
end
end Mine
end
section
open PySem PySem.W PySem.Spec PySem.Calls PyProof.Rows PyProof.V
namespace Mine
theorem of_allLt {d : Nat} : ∀ {l : List (Addr × Obj)}, AllLt d l → ∀ p ∈ l, p.1 ≠ d
  | [], _ => fun _ h => nomatch h
  | q :: _, h => fun p hp => by
    rcases List.mem_cons.mp hp with rfl | hp
    · exact Nat.ne_of_lt h.1
    · exact of_allLt h.2 p hp
local macro_rules | `(tactic| k_all) => `(tactic| first | exact of_allLt (by assumption) | exact of_allLt (And.right (by assumption)) | exact of_allLt (And.right (And.right (by assumption))) | exact of_allLt (And.right (And.right (And.right (by assumption)))) | exact of_allLt (And.right (And.right (And.right (And.right (by assumption))))))
local macro_rules | `(tactic| walk_at "UnrEnd") => `(tactic| (k_here; k_dflt (refine' UnrEnd.intro ?F ?N _ (fun p hp => hp) ?off ?_; (case F => k_asm); (case N => k_asm); (case off => k_all)); walk_say "UNREND"))
abbrev limObj (w : World) (b1 b2 b3 b4 b5 c1 c2 c3 c4 c5 : Tok) : Obj := dictOf [ent w "width" b1 (.int 64 c1), ent w "depth" b2 (.int 50 c2), ent w "steps" b3 (.int 1000000 c3), ent w "text" b4 (.int 200 c4), ent w "items" b5 (.int 10000 c5)] 5
theorem ret_int {Q : Value → Shared → Prop} {h₀ h' : Heap} {L : Addr} {m : Str → Option Value} {news : List (Addr × Obj)} {s : Shared} {x y : Int} {t : Tok} {tk' : Nat}
    (hret : ∀ (t : Tok) (h' : Heap) (tk' : Nat), Fr h₀ L h' m → News h₀ L h' news → Q (.int x t) { s with heap := h', toks := tk' }) (e : y = x) (F : Fr h₀ L h' m) (N : News h₀ L h' news) : Q (.int y t) { s with heap := h', toks := tk' } := by
  subst e
  exact hret t h' tk' F N
theorem it0 : Txt.item (Str.ofString "2x") 0 = Str.ofString "2" := by decide +kernel
theorem it1 : Txt.item (Str.ofString "2x") 1 = Str.ofString "x" := by decide +kernel
theorem sl01 : Txt.slice (Str.ofString "2x") (some 0) (some 1) = Str.ofString "2" := by decide +kernel
theorem item2x {prog : Program} {w : World} {A : Around} {E : Value → Shared → Prop} {s : Shared} {value slice : PySem.Expr} {t u : Tok} {i : Int} {Q : Value → Shared → Prop}
    (hi : i = 0 ∨ i = 1) (h : Q (.str (if i = 0 then Str.ofString "2" else Str.ofString "x") s.toks) { s with toks := s.toks + 1 })
    (hs : subscripted slice false (.str (Str.ofString "2x") t) (.int i u) = operate [.str (Str.ofString "2x") t, .int i u] (getItem (.str (Str.ofString "2x") t) (.int i u)) := by with_unfolding_all rfl)
    (ht : ∀ r, letTemporaryGo value (.str (Str.ofString "2x") t) r = pure () := by intro _; with_unfolding_all rfl) :
    wpAny (model prog w) A (subscriptTail value slice (.str (Str.ofString "2x") t) (.int i u)) Q E s := by
  have hl : (Str.ofString "2x").length = 2 := by decide +kernel
  rcases hi with rfl | rfl
  · refine KXi.item (n := 2) hl (by decide) (by decide) (by decide) (fun _ => ?_) hs ht
    rw [it0]; exact h
  · refine KXi.item (n := 2) hl (by decide) (by decide) (by decide) (fun _ => ?_) hs ht
    rw [it1]; exact h
theorem in_tf {prog : Program} {w : World} {A : Around} {E : Value → Shared → Prop} {s : Shared} {x y : Str} {t u : Tok} {Q : Value → Shared → Prop} (b : Bool) (e : (!(Builtin.Str.occurrences x y 0 x.length 1).isEmpty) = b) (h : Q (.bool b) s) : wpAny (model prog w) A (compareOp .In (.str y u) (.str x t)) Q E s := PyProof.Rows.in_str (e ▸ h)
local macro_rules | `(tactic| walk_at "compareOp In str str") => `(tactic| (k_here; (with_reducible show wpAny _ _ (compareOp CmpOp.In (Value.str (Str.ofString _) _) (Value.str (Str.ofString _) _)) _ _ _); first | (refine in_tf true ?e ?_; (case e => decide +kernel)) | (refine in_tf false ?e ?_; (case e => decide +kernel))))
local macro_rules | `(tactic| walk_at "exec For Name Subscript cons nil") => `(tactic| (k_here; (with_reducible show wpAny _ _ (exec (Stmt.For (Expr.Name (Str.ofString "sign") _) _ _ [] _) _) _ _ _); (rename Fr _ _ _ _ => lF'); (with_unfolding_all refine' For_invVF lF' ?k1 ?k2 ?_; (case k1 => exact rfl); (case k2 => exact rfl); k_whole); walk_say "FORSIGN"))
local macro_rules | `(tactic| walk_at "pyIter str") => `(tactic| (k_here; k_strUnr; walk_say "UNR"))
local macro_rules | `(tactic| walk_at "subscriptTail Name Name str int") => `(tactic| (k_here; (with_reducible show wpAny _ _ (subscriptTail _ _ (Value.str (Str.ofString "2x") _) (Value.int _ _)) _ _ _); (refine item2x ?hi ?_; (case hi => omega)); (try simp only [Int.reduceAdd, Int.reduceEq, Int.zero_add, if_true, if_false, reduceIte]); walk_say "ITEM2"))
local macro_rules | `(tactic| walk_at "subscriptTail Name Slice str ref") => `(tactic| (k_here; (with_reducible show wpAny _ _ (subscriptTail _ (Expr.Slice _ _ _ _) (Value.str (Str.ofString "2x") _) (Value.ref _)) _ _ _); kxi_slice; intro _ _ _ _ _; (try simp only [Int.reduceAdd, Int.zero_add, sl01]); walk_say "SLICE2"))
theorem tonum_K : ∀ (w : World) (p : Program) (loose : List Str) (mean : ExcName → Option Value) (mg mb : Str → Option Value)
    (dp un : Nat) (gd : Option (List Code)) (cn : Str) (cs : Scope) (a : Addr) (ccd : Value) (cl : List (Str × Addr)) (outer : List Env) (A₀ : Around) (base h₀ : Heap) (L : Addr) (m : Str → Option Value) (s : Shared) (Q E : Value → Shared → Prop)
    (lim dl : Nat) (cv : Value) (b1 b2 b3 b4 b5 c1 c2 c3 c4 c5 : Tok) (news : List (Addr × Obj)),
    Below A₀ base outer h₀ → Fr h₀ L s.heap m → (hd.heap_1 w.params).In h₀ →
    News h₀ L s.heap ((lim, instObj 401 dl) :: (dl, limObj w b1 b2 b3 b4 b5 c1 c2 c3 c4 c5) :: news) →
    Top p loose mean mg mb h₀ → cs.kind = .function →
    dp + 20 < recursionLimit → un + 200 < cLine → CountV cv →
    (∀ (t : Tok) (h' : Heap) (tk' : Nat), Fr h₀ L h' m → News h₀ L h' news → Q (.int (numOf cv) t) { s with heap := h', toks := tk' }) →
    wpAny (model PySem.Challenge.rw_qz0094_01.row.prog w) (ktrTop dp un gd cn cs L a ccd cl outer) (call (.ref 261) [cv, .ref lim]) Q E s := by
  k_fill
  intro w p loose mean mg mb dp un gd cn cs a ccd cl outer A₀ base h₀ L m s Q E lim dl cv b1 b2 b3 b4 b5 c1 c2 c3 c4 c5 news B F X N T hk hdp hun hcv hret
  rcases hcv with ⟨i, t, rfl, hi⟩ | ⟨t, rfl⟩
  · refine wpAny_call ?_
    k_dflt cell_enter
    k_steps
    all_goals first | exact ret_int hret rfl (by assumption) (fun p hp => (by assumption : News _ _ _ _) p (by simp [hp]))
  · refine wpAny_call ?_
    k_dflt cell_enter
    k_steps
    all_goals first | exact ret_int hret (Eq.trans (b := (2 : Int)) (by decide +kernel) rfl) (by assumption) (fun p hp => (by assumption : News _ _ _ _) p (by simp [hp]))
end Mine
end
section
open PySem PySem.W PySem.Spec PySem.Calls PyProof.Rows PyProof.V
namespace Mine
abbrev posA : Pos := { line := 302, col := 4, endLine := 309, endCol := 20 }
abbrev posB : Pos := { line := 311, col := 23, endLine := 311, endCol := 104 }
abbrev posC : Pos := { line := 312, col := 27, endLine := 312, endCol := 69 }
structure SL (ps : Array Value) (k1 k2 k3 : Nat) (o1 o2 o3 : Obj) (q1 q2 : Str) (_I : Nat) : Prop where
  trip : TriplesOk ps.toList
  s1 : Slot ps posA k1 o1 q1
  s2 : Slot ps posB k2 o2 q2
  s3 : Slot ps posC k3 o3 q2
abbrev runO (w : World) (ra : Nat → Tok) (lim : Nat) (d5 : Value) (rd : Nat → Value) : Obj := dictOf [ent w "heap" (ra 1) .none, ent w "counter" (ra 2) .none, ent w "stash" (ra 3) .none, ent w "limits" (ra 4) (.ref lim), ent w "nodes" (ra 5) d5, ent w "lvs" (ra 6) (rd 6), ent w "statements" (ra 7) (rd 7), ent w "funcs" (ra 8) (rd 8), ent w "operators" (ra 9) (rd 9), ent w "out" (ra 10) (rd 10), ent w "err" (ra 11) (rd 11), ent w "saves" (ra 12) (rd 12), ent w "frames" (ra 13) (rd 13), ent w "match" (ra 14) (rd 14), ent w "patterns" (ra 15) (rd 15), ent w "steps" (ra 16) (rd 16), ent w "methods" (ra 17) (rd 17), ent w "call_code" (ra 18) (rd 18), ent w "compile_text" (ra 19) (rd 19)] 19
abbrev refO (w : World) (a1 a2 : Tok) (tb : Nat) (x2 : Value) : Obj := dictOf [ent w "target" a1 (.ref tb), ent w "is_weak" a2 x2] 2
abbrev hashO (w : World) (n : Int) (rb : Nat → Tok) (rc : Nat → Value) (lv : Value) : Obj :=
  dictOf [ent w "number" (rb 1) (.int n (rb 0)), ent w "count" (rb 2) (rc 2), ent w "blessed" (rb 3) lv, ent w "weak" (rb 4) (rc 4), ent w "is_destroyed" (rb 5) (rc 5), ent w "is_freed" (rb 6) (rc 6), ent w "table" (rb 7) (rc 7), ent w "at" (rb 8) (rc 8), ent w "tied" (rb 9) (rc 9)] 9
theorem kok_of {news : List (Addr × Obj)} {k c' pond dr held dt : Nat} {op od oh ot opt : Obj} (x : ∀ q ∈ news, q.1 ≠ k → q.1 ≠ c') (K : k ≠ 435 ∧ k ≠ pond ∧ k ≠ dr ∧ k ≠ held ∧ k ≠ dt) (m0 : (435, opt) ∈ news) (m1 : (pond, op) ∈ news) (m2 : (dr, od) ∈ news) (m3 : (held, oh) ∈ news) (m4 : (dt, ot) ∈ news) :
    c' ≠ 435 ∧ c' ≠ pond ∧ c' ≠ dr ∧ c' ≠ held ∧ c' ≠ dt :=
  ⟨(x _ m0 K.1.symm).symm, (x _ m1 K.2.1.symm).symm, (x _ m2 K.2.2.1.symm).symm, (x _ m3 K.2.2.2.1.symm).symm, (x _ m4 K.2.2.2.2.symm).symm⟩
section
variable {M : Model} {A : Around} {E : Value → Shared → Prop} {s : Shared} {h₀ : Heap} {L a c P k1 k2 k3 : Nat} {m mg mb : Str → Option Value} {cn : Str} {cs : Scope} {ccd : Value} {cl : List (Str × Addr)} {news : List (Addr × Obj)} {g : Obj → List (Addr × Obj)}
  {p : Program} {loose : List Str} {mean : ExcName → Option Value} {name q1 q2 : Str} {params : Arguments} {scope : Scope} {ps : Array Value} {firstLine : Nat} {clos : List (Str × Addr)} {o1 o2 o3 op oh ot od oI : Obj} {I pond dr held dt lim d5n : Nat}
  {w : World} {n : Int} {rb : Nat → Tok} {rc : Nat → Value} {t1 t2 t3 t4 : Tok} {bv : Value} {rest : List DictEntry} {nn : Nat} {prog : Program} {knd knd' : KeyKind prog w Str} {x1 x1' x2 x3 : Value}
theorem kok_I {news : List (Addr × Obj)} {k c' I : Nat} {oI : Obj} (x : ∀ q ∈ news, q.1 ≠ k → q.1 ≠ c') (h : k ≠ I) (m : (I, oI) ∈ news) : c' ≠ I := (x _ m h.symm).symm
theorem told_make {body : List Stmt} {Q : Value → Shared → Prop} (F : Fr h₀ L s.heap m) (N : News h₀ L s.heap news) (T : Top p loose mean mg mb h₀) (hcd : ccd = .ref c) (C : CodeHd h₀ c P) (S : SL ps k1 k2 k3 o1 o2 o3 q1 q2 I) (U : UpdF P (tabObj ps) news g) (hk : (k1, o1) ∈ news)
    (mI : (I, oI) ∈ news) (hP : op.IsDictOf knd [(Str.ofString "script", x2), (Str.ofString "at", x3)]) (hH : oh.IsDictOf knd' [(Str.ofString "value", x1')]) (m0 : (435, tabObj ps) ∈ news) (m1 : (pond, op) ∈ news) (m2 : (dr, dictOf (ent w "heap" t1 x1 :: rest) nn) ∈ news) (m3 : (held, oh) ∈ news) (m4 : (dt, hashO w n rb rc bv) ∈ news)
    (Kk : k1 ≠ I ∧ k1 ≠ 435 ∧ k1 ≠ pond ∧ k1 ≠ dr ∧ k1 ≠ held ∧ k1 ≠ dt)
    (hcl : closureFor scope (envX cn cs L a ccd cl) = pure clos)
    (h : ∀ (f c' : Nat) oc ps' vs t ctv doc h' tk, Fr h₀ L h' m →
      News h₀ L h' ((f, fnMade name q1 params body scope clos doc ((mg "__name__").getD .none) c' ctv) :: (c', oc) :: g (tabObj ps')) →
      oc.data = .fields vs → vs[1]? = some (.str q1 t) → (c' ≠ 435 ∧ c' ≠ pond ∧ c' ≠ dr ∧ c' ≠ held ∧ c' ≠ dt) → c' ≠ I → (∀ q ∈ news, q.1 < f) → c' < f → SL ps' c' k2 k3 oc o2 o3 q1 q2 I → Q (.ref f) { s with heap := h', toks := tk }) :
    wpAny M A (makeFunction name q1 params (.stmts body) scope (envX cn cs L a ccd cl) [] [] [] posA firstLine) Q E s :=
  nest_any F N T C hcd U S.trip hk S.s1 hcl fun f c' oc ps' vs t ctv doc h' tk F' N' d1 d2 x1 x2 x3 x4 x5 x6 =>
    h f c' oc ps' vs t ctv doc h' tk F' N' d1 d2 (kok_of x1 Kk.2 m0 m1 m2 m3 m4) (kok_I x1 Kk.1 mI) x2 x3 ⟨x4, .inr ⟨x5, vs, t, d1, d2⟩, S.s2.keep (x6 _ (by decide)), S.s3.keep (x6 _ (by decide))⟩
theorem lam2_make {body : PySem.Expr} {Q : Value → Shared → Prop} (F : Fr h₀ L s.heap m) (N : News h₀ L s.heap news) (T : Top p loose mean mg mb h₀) (hcd : ccd = .ref c) (C : CodeHd h₀ c P) (S : SL ps k1 k2 k3 o1 o2 o3 q1 q2 I) (U : UpdF P (tabObj ps) news g) (hk : (k2, o2) ∈ news)
    (mI : (I, oI) ∈ news) (hP : op.IsDictOf knd [(Str.ofString "script", x2), (Str.ofString "at", x3)]) (hH : oh.IsDictOf knd' [(Str.ofString "value", x1')]) (m0 : (435, tabObj ps) ∈ news) (m1 : (pond, op) ∈ news) (m2 : (dr, dictOf (ent w "heap" t1 x1 :: rest) nn) ∈ news) (m3 : (held, oh) ∈ news) (m4 : (dt, hashO w n rb rc bv) ∈ news)
    (Kk : k2 ≠ I ∧ k2 ≠ 435 ∧ k2 ≠ pond ∧ k2 ≠ dr ∧ k2 ≠ held ∧ k2 ≠ dt)
    (hcl : closureFor scope (envX cn cs L a ccd cl) = pure clos)
    (h : ∀ (f c' : Nat) oc ps' vs t ctv h' tk, Fr h₀ L h' m →
      News h₀ L h' ((f, kla_obj name q2 params body scope clos ((mg "__name__").getD .none) c' ctv) :: (c', oc) :: g (tabObj ps')) →
      oc.data = .fields vs → vs[1]? = some (.str q2 t) → (c' ≠ 435 ∧ c' ≠ pond ∧ c' ≠ dr ∧ c' ≠ held ∧ c' ≠ dt) → c' ≠ I → (∀ q ∈ news, q.1 < f) → c' < f → SL ps' k1 c' k3 o1 oc o3 q1 q2 I → Q (.ref f) { s with heap := h', toks := tk }) :
    wpAny M A (makeFunction name q2 params (.expr body) scope (envX cn cs L a ccd cl) [] [] [] posB firstLine) Q E s :=
  lam_any F N T C hcd U S.trip hk S.s2 hcl fun f c' oc ps' vs t ctv h' tk F' N' d1 d2 x1 x2 x3 x4 x5 x6 =>
    h f c' oc ps' vs t ctv h' tk F' N' d1 d2 (kok_of x1 Kk.2 m0 m1 m2 m3 m4) (kok_I x1 Kk.1 mI) x2 x3 ⟨x4, S.s1.keep (x6 _ (by decide)), .inr ⟨x5, vs, t, d1, d2⟩, S.s3.keep (x6 _ (by decide))⟩
theorem lam3_make {body : PySem.Expr} {Q : Value → Shared → Prop} (F : Fr h₀ L s.heap m) (N : News h₀ L s.heap news) (T : Top p loose mean mg mb h₀) (hcd : ccd = .ref c) (C : CodeHd h₀ c P) (S : SL ps k1 k2 k3 o1 o2 o3 q1 q2 I) (U : UpdF P (tabObj ps) news g) (hk : (k3, o3) ∈ news)
    (mI : (I, oI) ∈ news) (hP : op.IsDictOf knd [(Str.ofString "script", x2), (Str.ofString "at", x3)]) (hH : oh.IsDictOf knd' [(Str.ofString "value", x1')]) (m0 : (435, tabObj ps) ∈ news) (m1 : (pond, op) ∈ news) (m2 : (dr, dictOf (ent w "heap" t1 x1 :: rest) nn) ∈ news) (m3 : (held, oh) ∈ news) (m4 : (dt, hashO w n rb rc bv) ∈ news)
    (Kk : k3 ≠ I ∧ k3 ≠ 435 ∧ k3 ≠ pond ∧ k3 ≠ dr ∧ k3 ≠ held ∧ k3 ≠ dt)
    (hcl : closureFor scope (envX cn cs L a ccd cl) = pure clos)
    (h : ∀ (f c' : Nat) oc ps' vs t ctv h' tk, Fr h₀ L h' m →
      News h₀ L h' ((f, kla_obj name q2 params body scope clos ((mg "__name__").getD .none) c' ctv) :: (c', oc) :: g (tabObj ps')) →
      oc.data = .fields vs → vs[1]? = some (.str q2 t) → (c' ≠ 435 ∧ c' ≠ pond ∧ c' ≠ dr ∧ c' ≠ held ∧ c' ≠ dt) → c' ≠ I → (∀ q ∈ news, q.1 < f) → c' < f → SL ps' k1 k2 c' o1 o2 oc q1 q2 I → Q (.ref f) { s with heap := h', toks := tk }) :
    wpAny M A (makeFunction name q2 params (.expr body) scope (envX cn cs L a ccd cl) [] [] [] posC firstLine) Q E s :=
  lam_any F N T C hcd U S.trip hk S.s3 hcl fun f c' oc ps' vs t ctv h' tk F' N' d1 d2 x1 x2 x3 x4 x5 x6 =>
    h f c' oc ps' vs t ctv h' tk F' N' d1 d2 (kok_of x1 Kk.2 m0 m1 m2 m3 m4) (kok_I x1 Kk.1 mI) x2 x3 ⟨x4, S.s1.keep (x6 _ (by decide)), S.s2.keep (x6 _ (by decide)), .inr ⟨x5, vs, t, d1, d2⟩⟩
end
structure CutF (h₀ : Heap) (L : Addr) (m : Str → Option Value) (news : List (Addr × Obj)) (s : Shared) (f : Flow) (s' : Shared) : Prop where
  next : f = .next
  here : KJoinAt h₀ L m news s s'
section
variable {M : Model} {A : Around} {w : World} {E : Value → Shared → Prop} {s : Shared} {env : Env} {h₀ : Heap} {L : Addr} {m : Str → Option Value} {news : List (Addr × Obj)} {st : Stmt} {Q : Flow → Shared → Prop} {g : Obj → List (Addr × Obj)}
theorem cut_bless {lv nv bv : Value} {dt : Nat} {n : Int} {rb : Nat → Tok} {rc : Nat → Value} (hl : LastV lv nv bv) (hn : OptV nv) (_F : Fr h₀ L s.heap m) (_N : News h₀ L s.heap news) (_m : (dt, hashO w n rb rc bv) ∈ news)
    (U : UpdF dt (hashO w n rb rc bv) news g)
    (h1 : nv = .none → wpAny M A (exec st env) (fun f s' => CutF h₀ L m (g (hashO w n rb rc bv)) s f s') E s)
    (h2 : ∀ x t, nv = .str x t → wpAny M A (exec st env) (fun f s' => CutF h₀ L m (g (hashO w n rb rc (.str x t))) s f s') E s)
    (h3 : ∀ h' tk', Fr h₀ L h' m → News h₀ L h' (g (hashO w n rb rc lv)) → Q .next { s with heap := h', toks := tk' }) : wpAny M A (exec st env) Q E s := by
  obtain ⟨rfl, _⟩ := hl
  rcases hn with rfl | ⟨x, t, rfl, hx⟩
  · refine wpAny_mono (h1 rfl) (fun f s' ⟨hf, h', tk', e, F', N'⟩ => ?_) fun _ _ h => h
    subst hf e; exact h3 h' tk' F' N'
  · refine wpAny_mono (h2 x t rfl) (fun f s' ⟨hf, h', tk', e, F', N'⟩ => ?_) fun _ _ h => h
    subst hf e; exact h3 h' tk' F' N'
def HeldV (hv : Value) (b : Bool) (r : Nat) : Prop := (b = true ∧ ∃ t, hv = .str (Str.ofString "another one") t) ∨ (b = false ∧ hv = .ref r)
theorem HeldV.handed {hv : Value} {b : Bool} {r : Nat} (h : HeldV hv b r) : handedIn hv = true := by
  rcases h with ⟨_, t, rfl⟩ | ⟨_, rfl⟩ <;> rfl
theorem cut_other {b : Bool} {held r : Nat} {oh : Obj} {oc : Obj} (_hb : oc.data = .cell (some (.bool b))) {P : Obj → Value → Prop} (hd : P oh (.ref r)) (_F : Fr h₀ L s.heap m) (_N : News h₀ L s.heap news) (_m : (held, oh) ∈ news)
    (U : UpdF held oh news g)
    (h1 : b = false → wpAny M A (exec st env) (fun f s' => CutF h₀ L m (g oh) s f s') E s)
    (h2 : b = true → wpAny M A (exec st env) (fun f s' => ∃ oh' t, P oh' (.str (Str.ofString "another one") t) ∧ CutF h₀ L m (g oh') s f s') E s)
    (h3 : ∀ oh' hv h' tk', P oh' hv → HeldV hv b r → handedIn hv = true → Fr h₀ L h' m → News h₀ L h' (g oh') → Q .next { s with heap := h', toks := tk' }) : wpAny M A (exec st env) Q E s := by
  cases b with
  | false =>
    refine wpAny_mono (h1 rfl) (fun f s' ⟨hf, h', tk', e, F', N'⟩ => ?_) fun _ _ h => h
    subst hf e; exact h3 oh (.ref r) h' tk' hd (.inr ⟨rfl, rfl⟩) rfl F' N'
  | true =>
    refine wpAny_mono (h2 rfl) (fun f s' ⟨oh', t, hp, hf, h', tk', e, F', N'⟩ => ?_) fun _ _ h => h
    subst hf e; exact h3 oh' _ h' tk' hp (.inl ⟨rfl, t, rfl⟩) rfl F' N'
end
end Mine
end
section
open PySem PySem.W PySem.Spec PySem.Calls PyProof.Rows PyProof.V
namespace Mine
structure BigF (T : Str) (i : Int) (cv : Value) : Prop where
  gt : (T.length : Int) * i > 200
  gt' : (T.length : Int) * numOf cv > 200
  one : 1 ≤ numOf cv
structure SmallF (T : Str) (i : Int) : Prop where
  le : ¬ ((T.length : Int) * i > 200)
theorem split_due {T : Str} {i : Int} {cv : Value} {P : Prop} (_hT : 9 ≤ T.length) (ht : TimesV i cv) (h1 : BigF T i cv → (T.length : Int) * i > 200 → (T.length : Int) * numOf cv > 200 → 1 ≤ numOf cv → P) (h2 : SmallF T i → ¬ ((T.length : Int) * i > 200) → P) : P := by
  by_cases h : (T.length : Int) * i > 200
  · have h1' : 1 ≤ numOf cv := by
      by_cases q : numOf cv < 1
      · rw [ht.lo q, Int.mul_zero] at h; omega
      · omega
    exact h1 ⟨h, by rw [ht.hi h1'] at h; exact h, h1'⟩ h (by rw [ht.hi h1'] at h; exact h) h1'
  · exact h2 ⟨h⟩ h
section
variable {prog : Program} {w : World} {A : Around} {E : Value → Shared → Prop} {s : Shared} {x y : Str} {t u : Tok} {Q : Value → Shared → Prop}
theorem eq_empty (hx : 1 ≤ x.length) (h : Q (.bool false) s) : wpAny (model prog w) A (compareOp .Eq (.str x t) (.str (Str.ofString "") u)) Q E s := by
  have hne : (x == Str.ofString "") = false := by
    rw [beq_eq_false_iff_ne]
    intro e
    rw [e] at hx
    exact absurd hx (by decide +kernel)
  refine PyProof.Rows.eq_str ?_
  rw [hne]
  exact h
end
theorem mul_zero (x : Str) : Txt.mul x 0 = Str.ofString "" := by
  refine PySem.Str.ext' ?_
  have h := len_mul x 0
  simp at h
  have h2 : (Txt.mul x 0).cps.size = 0 := by simpa [PySem.Str.length] using h
  rw [Array.eq_empty_of_size_eq_zero h2]
  decide +kernel
end Mine
end
section
open PySem PySem.W PySem.Spec PySem.Calls PyProof.Rows PyProof.V
namespace Mine
def DueS (D T : Str) (i : Int) (cv : Value) : Prop := (D = Str.ofString "Die" ∧ BigF T i cv ∧ (T.length : Int) * i > 200 ∧ (T.length : Int) * numOf cv > 200 ∧ 1 ≤ numOf cv) ∨ (D = Txt.mul T i ∧ SmallF T i ∧ ¬ ((T.length : Int) * i > 200))
structure InH1 : Prop where
  mk ::
structure InH2 : Prop where
  mk ::
structure InCut : Prop where
  mk ::
structure OthF (P : Obj → Value → Prop) (h₀ : Heap) (L : Addr) (m : Str → Option Value) (g : Obj → List (Addr × Obj)) (s : Shared) (f : Flow) (s' : Shared) : Prop where
  out : ∃ oh' t, P oh' (.str (Str.ofString "another one") t) ∧ CutF h₀ L m (g oh') s f s'
theorem cut_otherS {M : Model} {A : Around} {E : Value → Shared → Prop} {s : Shared} {env : Env} {h₀ : Heap} {L : Addr} {m : Str → Option Value} {news : List (Addr × Obj)} {st : Stmt} {Q : Flow → Shared → Prop} {g : Obj → List (Addr × Obj)}
    {b : Bool} {held r : Nat} {oh : Obj} {oc : Obj} (hb : oc.data = .cell (some (.bool b))) {P : Obj → Value → Prop} (hd : P oh (.ref r)) (F : Fr h₀ L s.heap m) (N : News h₀ L s.heap news) (mm : (held, oh) ∈ news)
    (U : UpdF held oh news g)
    (h1 : InCut → b = false → wpAny M A (exec st env) (fun f s' => CutF h₀ L m (g oh) s f s') E s)
    (h2 : InCut → b = true → wpAny M A (exec st env) (fun f s' => OthF P h₀ L m g s f s') E s)
    (h3 : ∀ oh' hv h' tk', P oh' hv → HeldV hv b r → handedIn hv = true → Fr h₀ L h' m → News h₀ L h' (g oh') → Q .next { s with heap := h', toks := tk' }) : wpAny M A (exec st env) Q E s :=
  cut_other hb hd F N mm U (h1 ⟨⟩) (fun e => wpAny_mono (h2 ⟨⟩ e) (fun _ _ x => x.out) fun _ _ x => x) h3
theorem news_of {h₀ h : Heap} {L : Addr} {news l : List (Addr × Obj)} (N : News h₀ L h news) (H : ∀ p ∈ l, p ∈ news) : News h₀ L h l := fun p hp => N p (H p hp)
section
variable {M : Model} {A : Around} {E : Value → Shared → Prop} {s : Shared} {env : Env} {h₀ : Heap} {L : Addr} {m : Str → Option Value} {news : List (Addr × Obj)} {e : PySem.Expr} {Q : Value → Shared → Prop}
theorem cut_due {T : Str} {i : Int} {cv : Value} (hT : 9 ≤ T.length) (ht : TimesV i cv) (F : Fr h₀ L s.heap m) (N : News h₀ L s.heap news)
    (h1 : BigF T i cv → (T.length : Int) * i > 200 → (T.length : Int) * numOf cv > 200 → 1 ≤ numOf cv → wpAny M A (eval e env) (fun v s' => Cut (fun v => ∃ t, v = .str (Str.ofString "Die") t) h₀ L m news s v s') E s)
    (h2 : SmallF T i → ¬ ((T.length : Int) * i > 200) → wpAny M A (eval e env) (fun v s' => Cut (fun v => ∃ t, v = .str (Txt.mul T i) t) h₀ L m news s v s') E s)
    (h3 : ∀ D t h' tk', DueS D T i cv → Fr h₀ L h' m → News h₀ L h' news → Q (.str D t) { s with heap := h', toks := tk' }) : wpAny M A (eval e env) Q E s := by
  refine split_due hT ht (fun a b c d => ?_) (fun a b => ?_)
  · exact cut_eval _ F N (h1 a b c d) fun v h' tk' hv F' N' => by obtain ⟨t, rfl⟩ := hv; exact h3 _ t h' tk' (.inl ⟨rfl, a, b, c, d⟩) F' N'
  · exact cut_eval _ F N (h2 a b) fun v h' tk' hv F' N' => by obtain ⟨t, rfl⟩ := hv; exact h3 _ t h' tk' (.inr ⟨rfl, a, b⟩) F' N'
theorem due_split {D T : Str} {i : Int} {cv : Value} {P : Str → Prop} (h : DueS D T i cv) (h1 : BigF T i cv → (T.length : Int) * i > 200 → (T.length : Int) * numOf cv > 200 → 1 ≤ numOf cv → P (Str.ofString "Die")) (h2 : SmallF T i → ¬ ((T.length : Int) * i > 200) → P (Txt.mul T i)) : P D := by
  rcases h with ⟨rfl, a, b, c, d⟩ | ⟨rfl, a, b⟩
  · exact h1 a b c d
  · exact h2 a b
end
theorem due_cases {D T : Str} {i : Int} {cv : Value} {P : Prop} (h : DueS D T i cv) (h1 : D = Str.ofString "Die" → BigF T i cv → (T.length : Int) * i > 200 → (T.length : Int) * numOf cv > 200 → 1 ≤ numOf cv → P) (h2 : D = Txt.mul T i → SmallF T i → ¬ ((T.length : Int) * i > 200) → P) : P := by
  rcases h with ⟨h, a, b, c, d⟩ | ⟨h, a, b⟩
  · exact h1 h a b c d
  · exact h2 h a b
theorem due_val {D X : Str} {t : Tok} (h : D = X) : Value.str X t = Value.str D t := by rw [h]
structure Turned (A₀ : Around) (base : Heap) (outer : List Env) (K : Frag) (p : Program) (loose : List Str) (mean : ExcName → Option Value) (mg mb : Str → Option Value) (g₀ : Heap) (L : Addr) (m : Str → Option Value) (news : List (Addr × Obj)) (s s' : Shared) : Prop where
  out : ∃ kg h' tk', s' = { s with heap := h', toks := tk' } ∧ KtsTurn (outer.filterMap (·.frame)) g₀ kg ∧ Fr kg L h' m ∧ News kg L h' news ∧ Below A₀ base outer kg ∧ K.In kg ∧ Top p loose mean mg mb kg ∧ KtsDicts (outer.filterMap (·.frame)) kg
structure Hrd1 (P : Obj → Value → Prop) (b : Bool) (r : Nat) (D : Str) (Z : List (Addr × Obj) → Shared → Prop) (g : Obj → List (Addr × Obj)) (v : Value) (s' : Shared) : Prop where
  out : ∃ oh' hv t, v = .str D t ∧ P oh' hv ∧ HeldV hv b r ∧ Z (g oh') s'
structure Hrd2 (D : Str) (Z : Shared → Prop) (v : Value) (s' : Shared) : Prop where
  out : ∃ t, v = .str D t ∧ Z s'
section
variable {A₀ : Around} {base : Heap} {outer : List Env} {K : Frag} {p : Program} {loose : List Str} {mean : ExcName → Option Value} {mg mb : Str → Option Value} {g₀ kg : Heap}
variable {M : Model} {A : Around} {w : World} {E : Value → Shared → Prop} {s : Shared} {h₀ h' : Heap} {L : Addr} {m : Str → Option Value} {news l : List (Addr × Obj)} {Q : Value → Shared → Prop} {g g1 g2 : Obj → List (Addr × Obj)} {S : Sem Value} {tk' : Nat}
theorem cut_heard1 {lv bv : Value} {dt : Nat} {n : Int} {rb : Nat → Tok} {rc : Nat → Value} {nv : Value} {b : Bool} {held r : Nat} {oh oc : Obj} {P : Obj → Value → Prop} {D T : Str} {i : Int} {cv : Value}
    (_hl : LastV lv nv bv) (_hD : DueS D T i cv) (_hb : oc.data = .cell (some (.bool b))) (_hd : P oh (.ref r)) (_F : Fr h₀ L s.heap m) (_N : News h₀ L s.heap news)
    (_B : Below A₀ base outer h₀) (_X : K.In h₀) (_T : Top p loose mean mg mb h₀) (_Dd : KtsDicts (outer.filterMap (·.frame)) h₀)
    (_m1 : (dt, hashO w n rb rc bv) ∈ news) (_U1 : UpdF dt (hashO w n rb rc bv) news g1)
    (_m2 : (held, oh) ∈ g1 (hashO w n rb rc lv)) (_U2 : UpdF held oh (g1 (hashO w n rb rc lv)) g2)
    (h1 : InH1 → wpAny M A S (fun v s' => Hrd1 P b r D (fun l s' => Turned A₀ base outer K p loose mean mg mb h₀ L m l s s') g2 v s') E s)
    (h3 : ∀ oh' hv t kg h' tk', P oh' hv → HeldV hv b r → handedIn hv = true → KtsTurn (outer.filterMap (·.frame)) h₀ kg → Fr kg L h' m → News kg L h' (g2 oh') → Below A₀ base outer kg → K.In kg → Top p loose mean mg mb kg → KtsDicts (outer.filterMap (·.frame)) kg → Q (.str D t) { s with heap := h', toks := tk' }) : wpAny M A S Q E s := by
  refine wpAny_mono (h1 ⟨⟩) (fun v s' ⟨oh', hv, t, e1, hp, hh, kg, h', tk', e, T', F', N', B', X', P', D'⟩ => ?_) fun _ _ h => h
  subst e1 e; exact h3 oh' hv t kg h' tk' hp hh hh.handed T' F' N' B' X' P' D'
theorem cut_heard2 {D T : Str} {i : Int} {cv : Value} {hv : Value} {b : Bool} {r : Nat} (_hh : HeldV hv b r) (_hD : DueS D T i cv) (_F : Fr h₀ L s.heap m) (_N : News h₀ L s.heap news)
    (_B : Below A₀ base outer h₀) (_X : K.In h₀) (_T : Top p loose mean mg mb h₀) (_Dd : KtsDicts (outer.filterMap (·.frame)) h₀) (_T0 : KtsTurn (outer.filterMap (·.frame)) g₀ h₀)
    (h1 : InH2 → wpAny M A S (fun v s' => Hrd2 D (fun s' => Turned A₀ base outer K p loose mean mg mb g₀ L m news s s') v s') E s)
    (h3 : ∀ t kg h' tk', KtsTurn (outer.filterMap (·.frame)) g₀ kg → Fr kg L h' m → News kg L h' news → Below A₀ base outer kg → K.In kg → Top p loose mean mg mb kg → KtsDicts (outer.filterMap (·.frame)) kg → Q (.str D t) { s with heap := h', toks := tk' }) : wpAny M A S Q E s := by
  refine wpAny_mono (h1 ⟨⟩) (fun v s' ⟨t, e1, kg, h', tk', e, T', F', N', B', X', P', D'⟩ => ?_) fun _ _ h => h
  subst e1 e; exact h3 t kg h' tk' T' F' N' B' X' P' D'
theorem Hrd1.of {P : Obj → Value → Prop} {b : Bool} {r : Nat} {D X : Str} {t : Tok} {oh' : Obj} {hv : Value}
    (hD : D = X) (hh : HeldV hv b r) (hp : P oh' hv) (F : Fr kg L h' m) (N : News kg L h' news) (T0 : KtsTurn (outer.filterMap (·.frame)) g₀ kg) (B : Below A₀ base outer kg) (X₀ : K.In kg) (T : Top p loose mean mg mb kg) (Dd : KtsDicts (outer.filterMap (·.frame)) kg) (M : ∀ p ∈ g oh', p ∈ news) :
    Hrd1 P b r D (fun l s' => Turned A₀ base outer K p loose mean mg mb g₀ L m l s s') g (.str X t) { s with heap := h', toks := tk' } :=
  ⟨oh', hv, t, by rw [hD], hp, hh, kg, h', tk', rfl, T0, F, news_of N M, B, X₀, T, Dd⟩
theorem Hrd2.of {D X : Str} {t : Tok}
    (hD : D = X) (F : Fr kg L h' m) (N : News kg L h' news) (T0 : KtsTurn (outer.filterMap (·.frame)) g₀ kg) (B : Below A₀ base outer kg) (X₀ : K.In kg) (T : Top p loose mean mg mb kg) (Dd : KtsDicts (outer.filterMap (·.frame)) kg) (M : ∀ p ∈ l, p ∈ news) :
    Hrd2 D (fun s' => Turned A₀ base outer K p loose mean mg mb g₀ L m l s s') (.str X t) { s with heap := h', toks := tk' } :=
  ⟨t, by rw [hD], kg, h', tk', rfl, T0, F, news_of N M, B, X₀, T, Dd⟩
end
end Mine
end
section
open PySem PySem.W PySem.Spec PySem.Calls PyProof.Rows PyProof.V
namespace Mine
theorem eq_clsK {K : Frag} {h : Heap} {x C : Addr} {ox : Obj} {dd : Option Addr} {cd : ClassData} {sl : Array (Option Value)} {k0 k1 k2 k3 k5 : Option Value} {n : String} {oc : Value} {od : Option Addr} {es : Array DictEntry} {u : Nat} {sl' : Array (Option Value)} (X : K.In h) (hx : h.get? x = some ox) (hc : ox.cls = .ref C)
    (ho : K.lookup C = some ⟨.type "type", dd, .cls cd, sl⟩) (hm : cd.mro = [.ref C, .type "object"]) (hs : sl = #[k0, k1, k2, k3, some (.builtin n), k5]) (hdel : cd.hasDel = false)
    (hns : K.lookup cd.ns = some ⟨oc, od, .dict es u, sl'⟩) (hes : (es.toList.all fun e => match e.key with | .str _ _ => true | _ => false) = true)
    (he : nsIn K cd.ns (Str.ofString "__eq__") = some none) (hn : nsIn K cd.ns (Str.ofString "__ne__") = some none) : h.CmpInst x C [.type "object"] := by
  have hok : nsOkIn K cd.ns = true := by unfold nsOkIn; rw [hns]; rw [Array.all_toList] at hes; exact hes
  obtain ⟨nm, bs, mro, ns, qn, hd, sn, sub, ab, col, del⟩ := cd
  dsimp only at hm hdel hok he hn
  subst hm hdel hs
  exact ⟨ox, nm, qn, ns, bs, hd, sn, sub, ab, col, dd, k0, k1, k2, k3, k5, n, _, hx, hc, X _ _ ho, .of_isNs (isNs_of_in X hok), nsMap_none_of_in X hok he, nsMap_none_of_in X hok hn⟩
section
variable {prog : Program} {w : World} {A : Around} {E : Value → Shared → Prop} {s : Shared} {h₀ : Heap} {L : Addr} {m : Str → Option Value} {news : List (Addr × Obj)} {Q : Value → Shared → Prop} {K : Frag}
theorem eq_heldT {hv : Value} {b : Bool} {r : Nat} {t : Tok} (hh : HeldV hv b r) (hb : b = true) (h : Q (.bool true) s) : wpAny (model prog w) A (compareOp .Eq hv (.str (Str.ofString "another one") t)) Q E s := by
  rcases hh with ⟨_, u, rfl⟩ | ⟨hb', _⟩
  · refine PyProof.Rows.eq_str ?_
    rw [beq_self_eq_true]
    exact h
  · rw [hb] at hb'; cases hb'
theorem eq_heldF {hv : Value} {b : Bool} {r : Nat} {C : Addr} {o : Obj} {dd : Option Addr} {cd : ClassData} {sl : Array (Option Value)} {k0 k1 k2 k3 k5 : Option Value} {n : String} {oc : Value} {od : Option Addr} {es : Array DictEntry} {u : Nat} {sl' : Array (Option Value)} (hh : HeldV hv b r) (hb : b = false) (X : K.In h₀) (F : Fr h₀ L s.heap m) (N : News h₀ L s.heap news) (mm : (r, o) ∈ news) (hc : o.cls = .ref C)
    (ho : K.lookup C = some ⟨.type "type", dd, .cls cd, sl⟩) (hm : cd.mro = [.ref C, .type "object"]) (hs : sl = #[k0, k1, k2, k3, some (.builtin n), k5]) (hdel : cd.hasDel = false)
    (hns : K.lookup cd.ns = some ⟨oc, od, .dict es u, sl'⟩) (hes : (es.toList.all fun e => match e.key with | .str _ _ => true | _ => false) = true)
    (he : nsIn K cd.ns (Str.ofString "__eq__") = some none) (hn : nsIn K cd.ns (Str.ofString "__ne__") = some none) (hu : A.units < cLine)
    (h : Q (.bool true) s) : wpAny (model prog w) A (compareOp .Eq hv (.ref r)) Q E s := by
  rcases hh with ⟨hb', _⟩ | ⟨_, rfl⟩
  · rw [hb] at hb'; cases hb'
  · obtain ⟨hh, g, d, t, os⟩ := s
    exact compareOp_eq_same PySem.F.cmp_object (eq_clsK (X.keeps F.keep) (N _ mm).1 hc ho hm hs hdel hns hes he hn) hu h
end
end Mine
end
section
open PySem PySem.W PySem.Spec PySem.Calls PyProof.Rows PyProof.V
namespace Mine
theorem news_of' {h₀ h : Heap} {L : Addr} {news l : List (Addr × Obj)} (N : News h₀ L h news) (H : ∀ p ∈ l, p ∈ news) : News h₀ L h l := fun p hp => N p (H p hp)
theorem mem2 {news l : List (Addr × Obj)} {x y : Addr × Obj} (hx : x ∈ news) (hy : y ∈ news) (h : ∀ p ∈ l, p ∈ news) : ∀ p ∈ x :: y :: l, p ∈ news := fun p hp => by
  rcases List.mem_cons.mp hp with rfl | hp
  · exact hx
  · rcases List.mem_cons.mp hp with rfl | hp
    · exact hy
    · exact h p hp
theorem hash_K : ∀ {w : World} {p : Program} {loose : List Str} {mean : ExcName → Option Value} {mg mb : Str → Option Value}
    {dp un : Nat} {gd : Option (List Code)} {cn : Str} {cs : Scope} {a : Addr} {ccd : Value} {cl : List (Str × Addr)} {outer : List Env} {A₀ : Around} {base h₀ : Heap} {L : Addr} {m : Str → Option Value} {s : Shared} {Q E : Value → Shared → Prop}
    {news : List (Addr × Obj)} {n : Int} {t1 : Tok},
    Fr h₀ L s.heap m → News h₀ L s.heap news → Below A₀ base outer h₀ → (hd.heap_1 w.params).In h₀ → Top p loose mean mg mb h₀ → cs.kind = .function → dp + 20 < recursionLimit → un + 400 < cLine →
    (∀ (x d : Nat) (rb : Nat → Tok) (rc : Nat → Value) (h' : Heap) (tk' : Nat), Fr h₀ L h' m → News h₀ L h' ((x, instObj 157 d) :: (d, hashO w n rb rc .none) :: news) → (∀ q ∈ news, q.1 < d) → d < x → Q (.ref x) { s with heap := h', toks := tk' }) →
    wpAny (model PySem.Challenge.rw_qz0094_01.row.prog w) (ktrTop dp un gd cn cs L a ccd cl outer) (call (.ref 157) [.int n t1]) Q E s := by
  k_fill
  intro w p loose mean mg mb dp un gd cn cs a ccd cl outer A₀ base h₀ L m s Q E news n t1 F N B X T hk hdp hun hret
  refine' call_cls F X N ?hm ?hi ?hf ?_
  case hm => k_is
  case hi => k_is
  case hf => k_is
  intro x d h' F' N' l1 l2
  have l1' : ∀ p ∈ news, p.1 ≠ d := fun p hp => Nat.ne_of_lt (l1 p hp)
  k_lt2 l2
  k_dflt cell_enter
  k_steps
  rename Fr _ _ _ _ => zF
  rename News _ _ _ _ => zN
  dsimp only at zF zN
  refine' hret x d (fnT [_, _, _, _, _, _, _, _, _, _]) (fnV [.none, .none, _, .none, _, _, _, _, _, _]) _ _ zF (news_of' zN (mem2 ?m1 ?m2 ?m3)) l1 l2
  case m1 => k_mem
  case m2 => k_mem
  case m3 => exact fun p hp => .tail _ (.tail _ (.tail _ (.tail _ hp)))
theorem ref_K : ∀ {w : World} {p : Program} {loose : List Str} {mean : ExcName → Option Value} {mg mb : Str → Option Value}
    {dp un : Nat} {gd : Option (List Code)} {cn : Str} {cs : Scope} {a : Addr} {ccd : Value} {cl : List (Str × Addr)} {outer : List Env} {A₀ : Around} {base h₀ : Heap} {L : Addr} {m : Str → Option Value} {s : Shared} {Q E : Value → Shared → Prop}
    {news : List (Addr × Obj)} {tb : Nat},
    Fr h₀ L s.heap m → News h₀ L s.heap news → Below A₀ base outer h₀ → (hd.heap_1 w.params).In h₀ → Top p loose mean mg mb h₀ → cs.kind = .function → dp + 20 < recursionLimit → un + 400 < cLine →
    (∀ (x d : Nat) (a1 a2 : Tok) (x2 : Value) (h' : Heap) (tk' : Nat), Fr h₀ L h' m → News h₀ L h' ((x, instObj 215 d) :: (d, refO w a1 a2 tb x2) :: news) → (∀ q ∈ news, q.1 < d) → d < x → Q (.ref x) { s with heap := h', toks := tk' }) →
    wpAny (model PySem.Challenge.rw_qz0094_01.row.prog w) (ktrTop dp un gd cn cs L a ccd cl outer) (call (.ref 215) [.ref tb]) Q E s := by
  k_fill
  intro w p loose mean mg mb dp un gd cn cs a ccd cl outer A₀ base h₀ L m s Q E news tb F N B X T hk hdp hun hret
  refine' call_cls F X N ?hm ?hi ?hf ?_
  case hm => k_is
  case hi => k_is
  case hf => k_is
  intro x d h' F' N' l1 l2
  have l1' : ∀ p ∈ news, p.1 ≠ d := fun p hp => Nat.ne_of_lt (l1 p hp)
  k_lt2 l2
  k_dflt (refine' code_def ?k1 ?k2 ?k3 ?k4 ?k5 ?kA ?kF ?kK ?k6 ?k7 ?k8 ?k9 ?kB ?_ ?c2 ?c3 ?c4 ?c5; (case kA => exact rfl); (case kF => exact rfl); (case kK => assumption); (case k1 => k_asm); (case k2 => k_asm); (case k3 => k_asm); (case k4 => k_asm); (case k5 => k_asm); (case k6 => k_is); (case k7 => k_is); (case k8 => ktr_room); (case k9 => exact binds_K (by k_in) rfl (by k_is) rfl rfl rfl); (case c5 => decide); (case kB => exact locs rfl); (case c2 => exact rfl); (case c3 => exact rfl); (case c4 => exact rfl); k_whole; intro g' L' h' FG' F' N' B' X' T'; (try dsimp only); (try k_lift B'); (try k_fold))
  k_steps
  rename Fr _ _ _ _ => zF
  rename News _ _ _ _ => zN
  dsimp only at zF zN
  exact hret x d _ _ _ _ _ zF zN l1 l2
section
variable {w : World} {A : Around} {base h₀ : Heap} {L : Addr} {m : Str → Option Value} {s : Shared} {E : Value → Shared → Prop}
theorem setb_K : ∀ {w : World} {A : Around} {h₀ : Heap} {L : Addr} {m : Str → Option Value} {s : Shared} {E : Value → Shared → Prop} {Q : Unit → Shared → Prop} {rest : List (Addr × Obj)} {x d : Nat} {n : Int} {rb : Nat → Tok} {rc : Nat → Value} {v0 v : Value},
    Fr h₀ L s.heap m → News h₀ L s.heap ((d, hashO w n rb rc v0) :: (x, instObj 157 d) :: rest) → (hd.heap_1 w.params).In h₀ → x ≠ d → (∀ q ∈ rest, q.1 ≠ d) →
    (∀ h' tk', Fr h₀ L h' m → News h₀ L h' ((d, hashO w n rb rc v) :: (x, instObj 157 d) :: rest) → Q () { s with heap := h', toks := tk' }) →
    wpAny (model PySem.Challenge.rw_qz0094_01.row.prog w) A (setAttr (.ref x) (Str.ofString "blessed") v) Q E s := by
  k_fill
  intro w A h₀ L m s E Q rest x d n rb rc v0 v F N X hx hr hret
  walk1
  exact hret _ _ (by assumption) (by assumption)
theorem setn_K : ∀ {w : World} {A : Around} {h₀ : Heap} {L : Addr} {m : Str → Option Value} {s : Shared} {E : Value → Shared → Prop} {Q : Unit → Shared → Prop} {rest : List (Addr × Obj)} {x d lim : Nat} {ra : Nat → Tok} {rd : Nat → Value} {v0 v : Value},
    Fr h₀ L s.heap m → News h₀ L s.heap ((d, runO w ra lim v0 rd) :: (x, instObj 320 d) :: rest) → (hd.heap_1 w.params).In h₀ → x ≠ d → (∀ q ∈ rest, q.1 ≠ d) →
    (∀ h' tk', Fr h₀ L h' m → News h₀ L h' ((d, runO w ra lim v rd) :: (x, instObj 320 d) :: rest) → Q () { s with heap := h', toks := tk' }) →
    wpAny (model PySem.Challenge.rw_qz0094_01.row.prog w) A (setAttr (.ref x) (Str.ofString "nodes") v) Q E s := by
  k_fill
  intro w A h₀ L m s E Q rest x d lim ra rd v0 v F N X hx hr hret
  walk1
  exact hret _ _ (by assumption) (by assumption)
theorem upd_use {d x : Nat} {o o' ox : Obj} {news : List (Addr × Obj)} {g : Obj → List (Addr × Obj)} {s : Shared} {Q : Unit → Shared → Prop} {S : Sem Unit} {M : Model}
    (F : Fr h₀ L s.heap m) (N : News h₀ L s.heap news) (U : UpdF d o news g) (hm : (x, ox) ∈ news) (hne : x ≠ d)
    (K : ∀ rest, News h₀ L s.heap ((d, o) :: (x, ox) :: rest) → (∀ q ∈ rest, q.1 ≠ d) → (∀ h' tk', Fr h₀ L h' m → News h₀ L h' ((d, o') :: (x, ox) :: rest) → Q () { s with heap := h', toks := tk' }) → wpAny M A S Q E s)
    (hret : ∀ h' tk', Fr h₀ L h' m → News h₀ L h' (g o') → Q () { s with heap := h', toks := tk' }) : wpAny M A S Q E s := by
  obtain ⟨pre, post, e1, e2, n1, n2⟩ := U.split
  subst e1
  refine K (pre ++ post) (fun q hq => N q ?_) ?_ ?_
  · simp only [List.mem_cons, List.mem_append] at hq hm ⊢
    rcases hq with rfl | rfl | hq | hq
    · exact Or.inr (Or.inl rfl)
    · exact hm
    · exact Or.inl hq
    · exact Or.inr (Or.inr hq)
  · intro q hq
    rcases List.mem_append.mp hq with hq | hq
    · exact n1 q hq
    · exact n2 q hq
  · intro h' tk' F' N'
    refine hret h' tk' F' (fun q hq => N' q ?_)
    rw [e2] at hq
    simp only [List.mem_cons, List.mem_append] at hq ⊢
    rcases hq with hq | rfl | hq
    · exact Or.inr (Or.inr (Or.inl hq))
    · exact Or.inl rfl
    · exact Or.inr (Or.inr (Or.inr hq))
theorem setb_use {Q : Unit → Shared → Prop} {news : List (Addr × Obj)} {g : Obj → List (Addr × Obj)} {x d : Nat} {n : Int} {rb : Nat → Tok} {rc : Nat → Value} {v0 v : Value} (F : Fr h₀ L s.heap m) (N : News h₀ L s.heap news) (X : (hd.heap_1 w.params).In h₀) (hm : (x, instObj 157 d) ∈ news) (U : UpdF d (hashO w n rb rc v0) news g) (hne : x ≠ d)
    (hret : ∀ h' tk', Fr h₀ L h' m → News h₀ L h' (g (hashO w n rb rc v)) → Q () { s with heap := h', toks := tk' }) :
    wpAny (model PySem.Challenge.rw_qz0094_01.row.prog w) A (setAttr (.ref x) (Str.ofString "blessed") v) Q E s :=
  upd_use (o' := hashO w n rb rc v) F N U hm hne (fun _ N' hr k => setb_K F N' X hne hr k) hret
theorem setn_use {Q : Unit → Shared → Prop} {news : List (Addr × Obj)} {g : Obj → List (Addr × Obj)} {x d lim : Nat} {ra : Nat → Tok} {rd : Nat → Value} {v0 v : Value} (F : Fr h₀ L s.heap m) (N : News h₀ L s.heap news) (X : (hd.heap_1 w.params).In h₀) (hm : (x, instObj 320 d) ∈ news) (U : UpdF d (runO w ra lim v0 rd) news g) (hne : x ≠ d)
    (hret : ∀ h' tk', Fr h₀ L h' m → News h₀ L h' (g (runO w ra lim v rd)) → Q () { s with heap := h', toks := tk' }) :
    wpAny (model PySem.Challenge.rw_qz0094_01.row.prog w) A (setAttr (.ref x) (Str.ofString "nodes") v) Q E s :=
  upd_use (o' := runO w ra lim v rd) F N U hm hne (fun _ N' hr k => setn_K F N' X hne hr k) hret
end
end Mine
end
section
open PySem PySem.W PySem.Spec PySem.Calls PyProof.Rows PyProof.V
namespace Mine
theorem mem2' {news l : List (Addr × Obj)} {x y : Addr × Obj} (hx : x ∈ l) (hy : y ∈ l) (h : ∀ p ∈ news, p ∈ l) : ∀ p ∈ x :: y :: news, p ∈ l := mem2 hx hy h
theorem lims_K : ∀ {w : World} {p : Program} {loose : List Str} {mean : ExcName → Option Value} {mg mb : Str → Option Value}
    {dp un : Nat} {gd : Option (List Code)} {cn : Str} {cs : Scope} {a : Addr} {ccd : Value} {cl : List (Str × Addr)} {outer : List Env} {A₀ : Around} {base h₀ : Heap} {L : Addr} {m : Str → Option Value} {s : Shared} {Q E : Value → Shared → Prop}
    {news : List (Addr × Obj)} {t1 : Tok} {kw : List (Str × Value)},
    Fr h₀ L s.heap m → News h₀ L s.heap news → Below A₀ base outer h₀ → (hd.heap_1 w.params).In h₀ → Top p loose mean mg mb h₀ → cs.kind = .function → dp + 20 < recursionLimit → un + 400 < cLine →
    kw = [(Str.ofString "text", .int 200 t1)] →
    (∀ (x d : Nat) (b1 b2 b3 b4 b5 c1 c2 c3 c4 c5 : Tok) (h' : Heap) (tk' : Nat), Fr h₀ L h' m → News h₀ L h' ((x, instObj 401 d) :: (d, limObj w b1 b2 b3 b4 b5 c1 c2 c3 c4 c5) :: news) → (∀ q ∈ news, q.1 < d) → d < x → Q (.ref x) { s with heap := h', toks := tk' }) →
    wpAny (model PySem.Challenge.rw_qz0094_01.row.prog w) (ktrTop dp un gd cn cs L a ccd cl outer) (call (.ref 401) [] kw) Q E s := by
  k_fill
  intro w p loose mean mg mb dp un gd cn cs a ccd cl outer A₀ base h₀ L m s Q E news t1 kw F N B X T hk hdp hun hkw hret
  subst hkw
  refine' call_cls F X N ?hm ?hi ?hf ?_
  case hm => k_is
  case hi => k_is
  case hf => k_is
  intro x d h' F' N' l1 l2
  have l1' : ∀ p ∈ news, p.1 ≠ d := fun p hp => Nat.ne_of_lt (l1 p hp)
  k_lt2 l2
  k_dflt (refine' code_def ?k1 ?k2 ?k3 ?k4 ?k5 ?kA ?kF ?kK ?k6 ?k7 ?k8 ?k9 ?kB ?_ ?c2 ?c3 ?c4 ?c5; (case kA => exact rfl); (case kF => exact rfl); (case kK => assumption); (case k1 => k_asm); (case k2 => k_asm); (case k3 => k_asm); (case k4 => k_asm); (case k5 => k_asm); (case k6 => k_is); (case k7 => k_is); (case k8 => ktr_room); (case k9 => exact binds_K (by k_in) rfl (by k_is) rfl rfl rfl); (case c5 => decide); (case kB => exact locs rfl); (case c2 => exact rfl); (case c3 => exact rfl); (case c4 => exact rfl); k_whole; intro g' L' h' FG' F' N' B' X' T'; (try dsimp only); (try k_lift B'); (try k_fold))
  k_steps
  rename Fr _ _ _ _ => zF
  rename News _ _ _ _ => zN
  dsimp only at zF zN
  exact hret x d _ _ _ _ _ _ _ _ _ _ _ _ zF zN l1 l2
theorem run_K : ∀ {w : World} {p : Program} {loose : List Str} {mean : ExcName → Option Value} {mg mb : Str → Option Value}
    {dp un : Nat} {gd : Option (List Code)} {cn : Str} {cs : Scope} {a : Addr} {ccd : Value} {cl : List (Str × Addr)} {outer : List Env} {A₀ : Around} {base h₀ : Heap} {L : Addr} {m : Str → Option Value} {s : Shared} {Q E : Value → Shared → Prop}
    {news : List (Addr × Obj)} {lim : Nat},
    Fr h₀ L s.heap m → News h₀ L s.heap news → Below A₀ base outer h₀ → (hd.heap_1 w.params).In h₀ → Top p loose mean mg mb h₀ → cs.kind = .function → dp + 20 < recursionLimit → un + 400 < cLine →
    (∀ (x d : Nat) (ra : Nat → Tok) (d5 : Value) (rd : Nat → Value) (h' : Heap) (tk' : Nat), Fr h₀ L h' m → News h₀ L h' ((x, instObj 320 d) :: (d, runO w ra lim d5 rd) :: news) → (∀ q ∈ news, q.1 < d) → d < x → Q (.ref x) { s with heap := h', toks := tk' }) →
    wpAny (model PySem.Challenge.rw_qz0094_01.row.prog w) (ktrTop dp un gd cn cs L a ccd cl outer) (call (.ref 320) [.none, .none, .none, .ref lim]) Q E s := by
  k_fill
  intro w p loose mean mg mb dp un gd cn cs a ccd cl outer A₀ base h₀ L m s Q E news lim F N B X T hk hdp hun hret
  refine' call_cls F X N ?hm ?hi ?hf ?_
  case hm => k_is
  case hi => k_is
  case hf => k_is
  intro x d h' F' N' l1 l2
  have l1' : ∀ p ∈ news, p.1 ≠ d := fun p hp => Nat.ne_of_lt (l1 p hp)
  k_lt2 l2
  k_dflt cell_enter
  k_steps
  rename Fr _ _ _ _ => zF
  rename News _ _ _ _ => zN
  dsimp only at zF zN
  refine' hret x d (fnT [0, _, _, _, _, _, _, _, _, _, _, _, _, _, _, _, _, _, _, _]) _ (fnV [.none, .none, .none, .none, .none, .none, _, _, _, _, _, _, _, _, _, _, _, _, _, _]) _ _ zF (news_of' zN (mem2 ?m1 ?m2 ?m3)) l1 l2
  case m1 => k_mem
  case m2 => k_mem
  case m3 => exact fun p hp => by repeat first | exact hp | refine List.Mem.tail _ ?_
end Mine
end
section
open PySem PySem.W PySem.Spec PySem.Calls PyProof.Rows PyProof.V
namespace Mine
local macro_rules | `(tactic| walk_at "call builtin:len") => `(tactic| (k_here; (with_reducible show wpAny _ _ (call (Value.builtin "len") [Value.str _ _]) _ _ _); (refine PyProof.Rows.len_str ?hh ?_; (case hh => omega)); walk_say "LEN"))
local macro_rules | `(tactic| walk_at "compareOp Eq str str") => `(tactic| (k_here; (with_reducible show wpAny _ _ (compareOp CmpOp.Eq (Value.str _ _) (Value.str (Str.ofString "") _)) _ _ _); (refine eq_empty ?hh ?_; (case hh => omega)); walk_say "EQE"))
local macro_rules | `(tactic| walk_at "binaryOp Mult str int") => `(tactic| (k_here; (with_reducible show wpAny _ _ (binaryOp Operator.Mult (Value.str _ _) (Value.int _ _)) _ _ _); (refine mul_short ?h1 ?h2 ?h3 ?_; (case h1 => omega); (case h2 => omega); (case h3 => omega)); intro _ _; walk_say "MULS"))
theorem repok_K : ∀ (w : World) (p : Program) (loose : List Str) (mean : ExcName → Option Value) (mg mb : Str → Option Value)
    (dp un : Nat) (gd : Option (List Code)) (cn : Str) (cs : Scope) (a : Addr) (ccd : Value) (cl : List (Str × Addr)) (outer : List Env) (A₀ : Around) (base h₀ : Heap) (L : Addr) (m : Str → Option Value) (s : Shared) (Q E : Value → Shared → Prop)
    (lim dl : Nat) (T : Str) (t1 t2 : Tok) (i : Int) (cv : Value) (b1 b2 b3 b4 b5 c1 c2 c3 c4 c5 : Tok) (news : List (Addr × Obj)),
    Below A₀ base outer h₀ → Fr h₀ L s.heap m → (hd.heap_1 w.params).In h₀ →
    News h₀ L s.heap ((lim, instObj 401 dl) :: (dl, limObj w b1 b2 b3 b4 b5 c1 c2 c3 c4 c5) :: news) →
    Top p loose mean mg mb h₀ → cs.kind = .function →
    dp + 20 < recursionLimit → un + 200 < cLine → TimesV i cv → 9 ≤ T.length → T.length ≤ 14 → SmallF T i →
    (∀ (t : Tok) (h' : Heap) (tk' : Nat), Fr h₀ L h' m → News h₀ L h' news → Q (.str (Txt.mul T i) t) { s with heap := h', toks := tk' }) →
    wpAny (model PySem.Challenge.rw_qz0094_01.row.prog w) (ktrTop dp un gd cn cs L a ccd cl outer) (call (.ref 364) [.str T t1, .int (numOf cv) t2, .ref lim]) Q E s := by
  k_fill
  intro w p loose mean mg mb dp un gd cn cs a ccd cl outer A₀ base h₀ L m s Q E lim dl T t1 t2 i cv b1 b2 b3 b4 b5 c1 c2 c3 c4 c5 news B F X N T' hk hdp hun hti hT1 hT2 hsm hret
  obtain ⟨hle⟩ := hsm
  by_cases hc : numOf cv < 1
  · rw [hti.lo hc, mul_zero] at hret
    refine wpAny_call ?_
    k_dflt cell_enter
    k_steps
    all_goals first | exact ret_str hret rfl (by assumption) (fun p hp => (by assumption : News _ _ _ _) p (by simp [hp]))
  · have h1 : 1 ≤ numOf cv := by omega
    have hu := hti.up
    rw [hti.hi h1] at hret hle hu
    refine wpAny_call ?_
    k_dflt cell_enter
    k_steps
    all_goals first | exact ret_str hret rfl (by assumption) (fun p hp => (by assumption : News _ _ _ _) p (by simp [hp]))
end Mine
end
section
open PySem PySem.W PySem.Spec PySem.Calls PyProof.Rows PyProof.V
namespace Mine
theorem news2 {h₀ h : Heap} {L : Addr} {news : List (Addr × Obj)} {x y : Addr × Obj} (N : News h₀ L h news) (hx : x ∈ news) (hy : y ∈ news) : News h₀ L h (x :: y :: news) := fun p hp => by
  rcases List.mem_cons.mp hp with rfl | hp
  · exact N _ hx
  · rcases List.mem_cons.mp hp with rfl | hp
    · exact N _ hy
    · exact N _ hp
theorem totext_use {w : World} {p : Program} {loose : List Str} {mean : ExcName → Option Value} {mg mb : Str → Option Value}
    {dp un : Nat} {gd : Option (List Code)} {cn : Str} {cs : Scope} {a : Addr} {ccd : Value} {cl : List (Str × Addr)} {outer : List Env} {A₀ : Around} {base h₀ : Heap} {L : Addr} {m : Str → Option Value} {s : Shared} {Q E : Value → Shared → Prop} {news : List (Addr × Obj)}
    {r dr tb dt : Nat} {lv : Value} {n : Int} {a1 a2 : Tok} {rb : Nat → Tok} {rc : Nat → Value} {x2 : Value}
    (B : Below A₀ base outer h₀) (F : Fr h₀ L s.heap m) (X : (hd.heap_1 w.params).In h₀) (N : News h₀ L s.heap news) (T : Top p loose mean mg mb h₀) (hk : cs.kind = .function)
    (h1 : (r, instObj 215 dr) ∈ news) (h2 : (dr, refO w a1 a2 tb x2) ∈ news) (h3 : (tb, instObj 157 dt) ∈ news)
    (h4 : (dt, hashO w n rb rc lv) ∈ news)
    (hdp : dp + 20 < recursionLimit) (hun : un + 200 < cLine) (hlv : OptV lv) (hn : Num n)
    (hret : ∀ (t : Tok) (h' : Heap) (tk' : Nat), Fr h₀ L h' m → News h₀ L h' news → Q (.str (textOf lv n) t) { s with heap := h', toks := tk' }) :
    wpAny (model PySem.Challenge.rw_qz0094_01.row.prog w) (ktrTop dp un gd cn cs L a ccd cl outer) (call (.ref 254) [.ref r]) Q E s :=
  totext_K w p loose mean mg mb dp un gd cn cs a ccd cl outer A₀ base h₀ L m s Q E r dr tb dt lv n a1 a2 (rb 1) (rb 2) (rb 3) (rb 4) (rb 5) (rb 6) (rb 7) (rb 8) (rb 9) (rb 0) x2 (rc 2) (rc 4) (rc 5) (rc 6) (rc 7) (rc 8) (rc 9) news B F X
    (news2 (news2 N h3 h4) (.tail _ (.tail _ h1)) (.tail _ (.tail _ h2))) T hk hdp hun hlv hn hret
theorem tonum_use {w : World} {p : Program} {loose : List Str} {mean : ExcName → Option Value} {mg mb : Str → Option Value}
    {dp un : Nat} {gd : Option (List Code)} {cn : Str} {cs : Scope} {a : Addr} {ccd : Value} {cl : List (Str × Addr)} {outer : List Env} {A₀ : Around} {base h₀ : Heap} {L : Addr} {m : Str → Option Value} {s : Shared} {Q E : Value → Shared → Prop} {news : List (Addr × Obj)}
    {lim dl : Nat} {cv : Value} {b1 b2 b3 b4 b5 c1 c2 c3 c4 c5 : Tok}
    (B : Below A₀ base outer h₀) (F : Fr h₀ L s.heap m) (X : (hd.heap_1 w.params).In h₀) (N : News h₀ L s.heap news) (T : Top p loose mean mg mb h₀) (hk : cs.kind = .function)
    (h1 : (lim, instObj 401 dl) ∈ news) (h2 : (dl, limObj w b1 b2 b3 b4 b5 c1 c2 c3 c4 c5) ∈ news)
    (hdp : dp + 20 < recursionLimit) (hun : un + 200 < cLine) (hcv : CountV cv)
    (hret : ∀ (t : Tok) (h' : Heap) (tk' : Nat), Fr h₀ L h' m → News h₀ L h' news → Q (.int (numOf cv) t) { s with heap := h', toks := tk' }) :
    wpAny (model PySem.Challenge.rw_qz0094_01.row.prog w) (ktrTop dp un gd cn cs L a ccd cl outer) (call (.ref 261) [cv, .ref lim]) Q E s :=
  tonum_K w p loose mean mg mb dp un gd cn cs a ccd cl outer A₀ base h₀ L m s Q E lim dl cv b1 b2 b3 b4 b5 c1 c2 c3 c4 c5 news B F X (news2 N h1 h2) T hk hdp hun hcv hret
theorem repok_use {w : World} {p : Program} {loose : List Str} {mean : ExcName → Option Value} {mg mb : Str → Option Value}
    {dp un : Nat} {gd : Option (List Code)} {cn : Str} {cs : Scope} {a : Addr} {ccd : Value} {cl : List (Str × Addr)} {outer : List Env} {A₀ : Around} {base h₀ : Heap} {L : Addr} {m : Str → Option Value} {s : Shared} {Q E : Value → Shared → Prop} {news : List (Addr × Obj)}
    {lim dl : Nat} {T₁ : Str} {t1 t2 : Tok} {i : Int} {cv : Value} {b1 b2 b3 b4 b5 c1 c2 c3 c4 c5 : Tok}
    (B : Below A₀ base outer h₀) (F : Fr h₀ L s.heap m) (X : (hd.heap_1 w.params).In h₀) (N : News h₀ L s.heap news) (T : Top p loose mean mg mb h₀) (hk : cs.kind = .function)
    (h1 : (lim, instObj 401 dl) ∈ news) (h2 : (dl, limObj w b1 b2 b3 b4 b5 c1 c2 c3 c4 c5) ∈ news)
    (hdp : dp + 20 < recursionLimit) (hun : un + 200 < cLine) (hti : TimesV i cv) (hsm : SmallF T₁ i) (hT1 : 9 ≤ T₁.length) (hT2 : T₁.length ≤ 14)
    (hret : ∀ (t : Tok) (h' : Heap) (tk' : Nat), Fr h₀ L h' m → News h₀ L h' news → Q (.str (Txt.mul T₁ i) t) { s with heap := h', toks := tk' }) :
    wpAny (model PySem.Challenge.rw_qz0094_01.row.prog w) (ktrTop dp un gd cn cs L a ccd cl outer) (call (.ref 364) [.str T₁ t1, .int (numOf cv) t2, .ref lim]) Q E s :=
  repok_K w p loose mean mg mb dp un gd cn cs a ccd cl outer A₀ base h₀ L m s Q E lim dl T₁ t1 t2 i cv b1 b2 b3 b4 b5 c1 c2 c3 c4 c5 news B F X (news2 N h1 h2) T hk hdp hun hti hT1 hT2 hsm hret
end Mine
end
section
open PySem PySem.W PySem.Spec PySem.Calls PyProof.Rows PyProof.V
namespace Mine
theorem eq_opq {prog : Program} {w : World} {A : Around} {E : Value → Shared → Prop} {s : Shared} {v : Int} {t u : Tok} {Q : Value → Shared → Prop} (h : ∀ b, Q (.bool b) s) : wpAny (model prog w) A (compareOp .Eq (.int v t) (.int 2 u)) Q E s := PyProof.Rows.eq_int (h _)
theorem eq_same {prog : Program} {w : World} {A : Around} {E : Value → Shared → Prop} {s : Shared} {x : Str} {t u : Tok} {Q : Value → Shared → Prop} (h : Q (.bool true) s) : wpAny (model prog w) A (compareOp .Eq (.str x t) (.str x u)) Q E s := by
  refine PyProof.Rows.eq_str ?_
  rw [beq_self_eq_true]
  exact h
theorem idw {P : Prop} (h : P) : P := h
abbrev qT : Str := (Str.ofString "_law_right" ++ Str.ofString ".<locals>.") ++ Str.ofString "told"
abbrev qL : Str := (Str.ofString "_law_right" ++ Str.ofString ".<locals>.") ++ Str.ofString "<lambda>"
inductive AddrIn (a : Nat) : List (Addr × Obj) → Prop
  | head {o : Obj} {l : List (Addr × Obj)} : AddrIn a ((a, o) :: l)
  | tail {q : Addr × Obj} {l : List (Addr × Obj)} : AddrIn a l → AddrIn a (q :: l)
theorem lt_in {a d : Nat} {l : List (Addr × Obj)} (h : ∀ p ∈ l, p.1 < d) (m : AddrIn a l) : a < d := by
  induction m with
  | head => exact h _ (.head _)
  | tail _ ih => exact ih fun p hp => h p (.tail _ hp)
theorem lt_in2 {a d e : Nat} {l : List (Addr × Obj)} (h2 : d < e) (h : ∀ p ∈ l, p.1 < d) (m : AddrIn a l) : a < e := Nat.lt_trans (lt_in h m) h2
theorem ne_a {a d : Nat} {l : List (Addr × Obj)} (h : ∀ p ∈ l, p.1 < d) (m : AddrIn a l) : a ≠ d := Nat.ne_of_lt (lt_in h m)
theorem ne_b {a d : Nat} {l : List (Addr × Obj)} (h : ∀ p ∈ l, p.1 < d) (m : AddrIn a l) : d ≠ a := Nat.ne_of_gt (lt_in h m)
theorem ne_c {a d : Nat} {l : List (Addr × Obj)} (h : ∀ p ∈ l, p.1 < d) (m : AddrIn a l) : a ≠ d + 1 := Nat.ne_of_lt (Nat.lt_succ_of_lt (lt_in h m))
theorem ne_d {a d : Nat} {l : List (Addr × Obj)} (h : ∀ p ∈ l, p.1 < d) (m : AddrIn a l) : d + 1 ≠ a := Nat.ne_of_gt (Nat.lt_succ_of_lt (lt_in h m))
theorem ne_e {a d e : Nat} {l : List (Addr × Obj)} (h2 : d < e) (h : ∀ p ∈ l, p.1 < d) (m : AddrIn a l) : a ≠ e := Nat.ne_of_lt (lt_in2 h2 h m)
theorem ne_f {a d e : Nat} {l : List (Addr × Obj)} (h2 : d < e) (h : ∀ p ∈ l, p.1 < d) (m : AddrIn a l) : e ≠ a := Nat.ne_of_gt (lt_in2 h2 h m)
theorem allNe_in2 {a d : Nat} {l post : List (Addr × Obj)} (h2 : d < a) (h : ∀ p ∈ l, p.1 < d) (e : d :: l.map Prod.fst = post.map Prod.fst) : ∀ p ∈ post, p.1 ≠ a := fun p hp => by
  have hm : p.1 ∈ d :: l.map Prod.fst := by rw [e]; exact List.mem_map_of_mem hp
  rcases List.mem_cons.mp hm with hm | hm
  · rw [hm]; exact Nat.ne_of_lt h2
  · obtain ⟨q, hq, eq⟩ := List.mem_map.mp hm
    rw [← eq]
    exact Nat.ne_of_lt (Nat.lt_trans (h q hq) h2)
theorem allNe_in {a : Nat} {l post : List (Addr × Obj)} (h : ∀ p ∈ l, p.1 < a) (e : l.map Prod.fst = post.map Prod.fst) : ∀ p ∈ post, p.1 ≠ a := fun p hp => by
  have hm : p.1 ∈ l.map Prod.fst := by rw [e]; exact List.mem_map_of_mem hp
  obtain ⟨q, hq, eq⟩ := List.mem_map.mp hm
  rw [← eq]
  exact Nat.ne_of_lt (h q hq)
theorem lt_up {d : Nat} {l : List (Addr × Obj)} (h : ∀ p ∈ l, p.1 < d) : ∀ p ∈ l, p.1 < d + 1 := fun p hp => Nat.lt_succ_of_lt (h p hp)
theorem lt_next {d : Nat} {l : List (Addr × Obj)} (o : Obj) (h : ∀ p ∈ l, p.1 < d) : ∀ p ∈ (d, o) :: l, p.1 < d + 1 := fun p hp => by
  rcases List.mem_cons.mp hp with rfl | hp
  · exact Nat.lt_succ_self _
  · exact Nat.lt_succ_of_lt (h p hp)
theorem ltc {a b : Nat} {l : List (Addr × Obj)} (o : Obj) (h : a < b) (h' : ∀ p ∈ l, p.1 < a) : ∀ p ∈ (a, o) :: l, p.1 < b := fun p hp => by
  rcases List.mem_cons.mp hp with rfl | hp
  · exact h
  · exact Nat.lt_trans (h' p hp) h
theorem ltc0 {a : Nat} : ∀ p ∈ ([] : List (Addr × Obj)), p.1 < a := fun p hp => by cases hp
end Mine
end
section
open PySem PySem.W PySem.Spec PySem.Calls PyProof.Rows PyProof.V
namespace Mine
theorem good_true {cl : Str → Option Addr} {mean : ExcName → Option Value} {args : List WData} {s₁ s' : Shared} {L : Addr} {m : Str → Option Value} (F : Fr s₁.heap L s'.heap m) (hg : s'.gens = #[]) (hos : s'.os = s₁.os) :
  GoodW PySem.Challenge.rw_qz0094_01.row.claim cl mean args s₁ (.ok (.ret (.bool true))) s' := by
  refine goodW_bool F hg (raisesW_false ?_) ?_ hos
  · wrow_none_raised
  · wrow_post
end Mine
end
section
open PySem PySem.W PySem.Spec PySem.Calls PyProof.Rows PyProof.V
namespace Mine
section
variable {prog : Program} {w : World} {A : Around} {E : Value → Shared → Prop} {s : Shared} {env : Env} {h₀ : Heap} {x : Str} {body : List Stmt} {Q : Flow → Shared → Prop}
theorem unrPost_mono {L I : Addr} {it : Obj} {s₁ s₂ : Shared} {f : Flow} {R R' : (Str → Option Value) → List (Addr × Obj) → Prop} (h : ∀ m' news', R m' news' → R' m' news') (p : UnrPost h₀ L s₁ I it R Q f s₂) : UnrPost h₀ L s₁ I it R' Q f s₂ := by
  have key : UnrEnd h₀ L s₁ I it R s₂ → UnrEnd h₀ L s₁ I it R' s₂ := fun ⟨h', tk, m', news', e, F, N, o, r⟩ => ⟨h', tk, m', news', e, F, N, o, h _ _ r⟩
  cases f with
  | ret v => exact p
  | brk => exact p
  | next => exact key p
  | cont => exact key p
theorem rest_ind {I : Addr} {a : Int} {n : Nat} {m₀ : Str → Option Value} (J : Nat → List (Addr × Obj) → Prop)
    (turn : ∀ (i : Nat) (news₁ : List (Addr × Obj)) t h tk, i < n → J i news₁ → Fr h₀ env.locals h (fun y => if y = x then some (.int (a + (i : Int)) t) else m₀ y) → News h₀ env.locals h ((I, itR (a + ((i + 1 : Nat) : Int)) ((n : Int) - ((i + 1 : Nat) : Int))) :: news₁) →
      wpAny (model prog w) A (execs body env) (UnrPost h₀ env.locals { s with heap := h, toks := tk } I (itR (a + ((i + 1 : Nat) : Int)) ((n : Int) - ((i + 1 : Nat) : Int))) (fun m' news' => (∀ y, y ≠ x → m' y = m₀ y) ∧ J (i + 1) news') Q) E { s with heap := h, toks := tk })
    (done : ∀ news₁ m' h tk, (∀ y, y ≠ x → m' y = m₀ y) → J n news₁ → Fr h₀ env.locals h m' → News h₀ env.locals h news₁ → Q .next { s with heap := h, toks := tk }) :
    ∀ (k i : Nat) (m₁ : Str → Option Value) (news₁ : List (Addr × Obj)), i + k = n → (∀ y, y ≠ x → m₁ y = m₀ y) → J i news₁ → RangeRest prog w A E h₀ env x body Q s I a n k i m₁ news₁
  | 0, i, m₁, news₁, hn, hm, hj => fun h tk F N => done news₁ m₁ h tk hm (by rw [Nat.add_zero] at hn; rw [← hn]; exact hj) F N
  | k + 1, i, m₁, news₁, hn, hm, hj => fun t h tk F N => by
    have e : (fun y => if y = x then some (Value.int (a + (i : Int)) t) else m₁ y) = (fun y => if y = x then some (Value.int (a + (i : Int)) t) else m₀ y) := by
      funext y
      by_cases hy : y = x
      · rw [if_pos hy, if_pos hy]
      · rw [if_neg hy, if_neg hy, hm y hy]
    rw [e] at F
    refine wpAny_mono (turn i news₁ t h tk (by omega) hj F N) (fun f s₂ p => unrPost_mono (fun m' news' q => ?_) p) fun _ _ z => z
    exact rest_ind J turn done k (i + 1) m' news' (by omega) q.1 q.2
theorem law_loop {r : Addr} {v : Int} {t₀ u₀ v₀ : Tok} {m₀ : Str → Option Value} {news : List (Addr × Obj)} (J : Addr → Nat → List (Addr × Obj) → Prop)
    (hh : A.handled = none) (hr : IsRange s.heap r 0 (1 + v) 1 t₀ u₀ v₀) (h0 : 0 ≤ v) (h4 : v < 5) (F : Fr h₀ env.locals s.heap m₀) (N : News h₀ env.locals s.heap news)
    (start : ∀ I : Addr, (∀ p ∈ news, p.1 < I) → ∃ news', (∀ p ∈ news', p ∈ news) ∧ J I 0 news')
    (turn : ∀ (I : Addr) (i : Nat) (news₁ : List (Addr × Obj)) (b : Int) t h tk, i < 5 → J I i news₁ → Fr h₀ env.locals h (fun y => if y = x then some (.int (0 + (i : Int)) t) else m₀ y) → News h₀ env.locals h ((I, itR (0 + ((i + 1 : Nat) : Int)) b) :: news₁) →
      wpAny (model prog w) A (execs body env) (UnrPost h₀ env.locals { s with heap := h, toks := tk } I (itR (0 + ((i + 1 : Nat) : Int)) b) (fun m' news' => (∀ y, y ≠ x → m' y = m₀ y) ∧ J I (i + 1) news') Q) E { s with heap := h, toks := tk })
    (done : ∀ (I : Addr) (i : Nat) news₁ m' h tk, (∀ y, y ≠ x → m' y = m₀ y) → J I i news₁ → Fr h₀ env.locals h m' → News h₀ env.locals h news₁ → Q .next { s with heap := h, toks := tk }) :
    wpAny (model prog w) A (pyIter (.ref r)) (fun it s₂ => LoopAtV prog w A h₀ env x body Q E it s₂) E s := by
  have hv : v = 0 ∨ v = 1 ∨ v = 2 ∨ v = 3 ∨ v = 4 := by omega
  have key : Builtin.Range.small 0 (1 + v) 1 = true ∧ Builtin.Range.rangeSize 0 (1 + v) 1 = ((1 + v).toNat : Int) ∧ (1 + v).toNat ≤ 5 := by
    rcases hv with rfl | rfl | rfl | rfl | rfl <;> exact ⟨by decide, by decide, by decide⟩
  refine iter_rangeUnr hh hr key.1 key.2.1 F N fun I hI => ?_
  obtain ⟨news', sub, hj⟩ := start I hI
  have R : RangeRest prog w A E h₀ env x body Q s I 0 (1 + v).toNat (1 + v).toNat 0 m₀ news' :=
    rest_ind (J I) (fun i news₁ t h tk hi hj F N => turn I i news₁ _ t h tk (by omega) hj F N) (fun news₁ m' h tk hm hj F N => done I _ news₁ m' h tk hm hj F N) _ 0 m₀ news' (by omega) (fun _ _ => rfl) hj
  generalize (1 + v).toNat = n at R
  cases n with
  | zero => exact fun h tk F N => R h tk F fun p hp => N p (sub p hp)
  | succ k =>
    intro t h tk F N
    refine R t h tk F fun p hp => ?_
    rcases List.mem_cons.mp hp with rfl | hp
    · exact N _ (.head _)
    · exact N p (.tail _ (sub p hp))
end
end Mine
end
section
open PySem PySem.W PySem.Spec PySem.Calls PyProof.Rows PyProof.V
namespace Mine
structure JT (w : World) (ra : Nat → Tok) (rd : Nat → Value) (lim dl dr run held l pond : Nat) (b1 b2 b3 b4 b5 c1 c2 c3 c4 c5 : Tok) (vs : List Value) (I : Addr) (i : Nat) (news : List (Addr × Obj)) : Prop where
  out : ∃ (op oh o1 o2 o3 : Obj) (k1 k2 k3 : Nat) (ps : Array Value) (d5 hv : Value) (t3 : Tok), news = [(held, oh), (run, instObj 320 dr), (dr, runO w ra lim d5 rd), (lim, instObj 401 dl), (dl, limObj w b1 b2 b3 b4 b5 c1 c2 c3 c4 c5), (k1, o1), (k2, o2), (k3, o3), (l, listOf vs.toArray 0), (pond, op), (435, tabObj ps)] ∧
    (k1 ≠ 435 ∧ k2 ≠ 435 ∧ k3 ≠ 435 ∧ k1 ≠ pond ∧ k2 ≠ pond ∧ k3 ≠ pond ∧ k1 ≠ dr ∧ k2 ≠ dr ∧ k3 ≠ dr ∧ k1 ≠ held ∧ k2 ≠ held ∧ k3 ≠ held ∧ k1 ≠ I ∧ k2 ≠ I ∧ k3 ≠ I) ∧ held < I ∧ SL ps k1 k2 k3 o1 o2 o3 qT qL I ∧ op.IsDictOf (strKind PySem.Challenge.rw_qz0094_01.row.prog w) [("script", .ref l), ("at", .int (1 + 5 * (i : Int)) t3)] ∧ oh.IsDictOf (strKind PySem.Challenge.rw_qz0094_01.row.prog w) [("value", hv)]
section
variable {w : World} {ra : Nat → Tok} {rd : Nat → Value} {lim dl dr run held l pond k1 k2 k3 : Nat} {b1 b2 b3 b4 b5 c1 c2 c3 c4 c5 t3 : Tok} {vs : List Value} {ns : List Int} {I : Addr} {i : Nat} {news : List (Addr × Obj)} {op oh o1 o2 o3 : Obj} {ps : Array Value} {hv : Value} {at0 : Int}
theorem JT.next {d5 : Value} (n1 : k1 ≠ 435) (n2 : k2 ≠ 435) (n3 : k3 ≠ 435) (n4 : k1 ≠ pond) (n5 : k2 ≠ pond) (n6 : k3 ≠ pond) (n7 : k1 ≠ dr) (n8 : k2 ≠ dr) (n9 : k3 ≠ dr) (n10 : k1 ≠ held) (n11 : k2 ≠ held) (n12 : k3 ≠ held) (n13 : k1 ≠ I) (n14 : k2 ≠ I) (n15 : k3 ≠ I) (hI : held < I)
    (S : SL ps k1 k2 k3 o1 o2 o3 qT qL I) (hd1 : op.IsDictOf (strKind PySem.Challenge.rw_qz0094_01.row.prog w) [("script", .ref l), ("at", .int (1 + 5 * (i : Int) + 1 + 1 + 1 + 1 + 1) t3)]) (hd2 : oh.IsDictOf (strKind PySem.Challenge.rw_qz0094_01.row.prog w) [("value", hv)]) :
    JT w ra rd lim dl dr run held l pond b1 b2 b3 b4 b5 c1 c2 c3 c4 c5 vs I (i + 1) [(held, oh), (run, instObj 320 dr), (dr, runO w ra lim d5 rd), (lim, instObj 401 dl), (dl, limObj w b1 b2 b3 b4 b5 c1 c2 c3 c4 c5), (k1, o1), (k2, o2), (k3, o3), (l, listOf vs.toArray 0), (pond, op), (435, tabObj ps)] := by
  refine ⟨op, oh, o1, o2, o3, k1, k2, k3, ps, d5, hv, t3, rfl, ⟨n1, n2, n3, n4, n5, n6, n7, n8, n9, n10, n11, n12, n13, n14, n15⟩, hI, S, ?_, hd2⟩
  have e : 1 + 5 * (i : Int) + 1 + 1 + 1 + 1 + 1 = 1 + 5 * ((i + 1 : Nat) : Int) := by omega
  rw [← e]
  exact hd1
theorem JT.start {ra : Nat → Tok} {rd : Nat → Value} {d5 : Value} (m1 : (run, instObj 320 dr) ∈ news) (m2 : (dr, runO w ra lim d5 rd) ∈ news) (m3 : (lim, instObj 401 dl) ∈ news) (m4 : (dl, limObj w b1 b2 b3 b4 b5 c1 c2 c3 c4 c5) ∈ news)
    (hd1 : op.IsDictOf (strKind PySem.Challenge.rw_qz0094_01.row.prog w) [("script", .ref l), ("at", .int at0 t3)]) (hd2 : oh.IsDictOf (strKind PySem.Challenge.rw_qz0094_01.row.prog w) [("value", hv)]) (m5 : (held, oh) ∈ news) (m6 : (pond, op) ∈ news) (hint : IntsAre vs ns) (m7 : (l, listOf vs.toArray 0) ∈ news) (m8 : (435, tabObj #[]) ∈ news)
    (e : at0 = 1) (n1 : l ≠ 435) (n2 : l ≠ pond) (n3 : l ≠ dr) (n4 : l ≠ held) (hI : ∀ p ∈ news, p.1 < I) :
    ∃ news', (∀ p ∈ news', p ∈ news) ∧ JT w ra rd lim dl dr run held l pond b1 b2 b3 b4 b5 c1 c2 c3 c4 c5 vs I 0 news' := by
  have hl : l ≠ I := Nat.ne_of_lt (hI _ m7)
  refine ⟨_, ?_, ⟨op, oh, listOf vs.toArray 0, listOf vs.toArray 0, listOf vs.toArray 0, l, l, l, #[], d5, hv, t3, rfl, ⟨n1, n1, n1, n2, n2, n2, n3, n3, n3, n4, n4, n4, hl, hl, hl⟩, hI _ m5, ⟨trivial, .inl rfl, .inl rfl, .inl rfl⟩, ?_, hd2⟩⟩
  · refine List.forall_mem_cons.mpr ⟨m5, List.forall_mem_cons.mpr ⟨m1, List.forall_mem_cons.mpr ⟨m2, List.forall_mem_cons.mpr ⟨m3, List.forall_mem_cons.mpr ⟨m4, List.forall_mem_cons.mpr ⟨m7, List.forall_mem_cons.mpr ⟨m7, List.forall_mem_cons.mpr ⟨m7, List.forall_mem_cons.mpr ⟨m7, List.forall_mem_cons.mpr ⟨m6, List.forall_mem_cons.mpr ⟨m8, List.forall_mem_nil _⟩⟩⟩⟩⟩⟩⟩⟩⟩⟩⟩
  · rw [e] at hd1
    exact hd1
end
end Mine
end
section
open PySem PySem.W PySem.Spec PySem.Calls PyProof.Rows PyProof.V
namespace Mine
local macro_rules | `(tactic| k_lt $_h) => `(tactic| skip)
local macro_rules | `(tactic| k_all) => `(tactic| first | (refine allNe_in (by with_reducible assumption) ?_; exact rfl) | (refine allNe_in2 (by with_reducible assumption) (by with_reducible assumption) ?_; exact rfl))
local macro_rules | `(tactic| tbn_below) => `(tactic| ((repeat first | with_reducible exact AddrIn.head | with_reducible refine AddrIn.tail ?_); done))
local macro_rules | `(tactic| k_ne) => `(tactic| (refine neN ?_; (try dsimp only); first | with_reducible assumption | (refine Ne.symm ?_; with_reducible assumption) | (refine Nat.ne_of_lt ?_; with_reducible assumption) | (refine Nat.ne_of_gt ?_; with_reducible assumption) | (with_reducible refine ne_a (by with_reducible assumption) ?_; tbn_below) | (with_reducible refine ne_b (by with_reducible assumption) ?_; tbn_below) | (with_reducible refine ne_c (by with_reducible assumption) ?_; tbn_below) | (with_reducible refine ne_d (by with_reducible assumption) ?_; tbn_below) | (with_reducible refine ne_e (by with_reducible assumption) (by with_reducible assumption) ?_; tbn_below) | (with_reducible refine ne_f (by with_reducible assumption) (by with_reducible assumption) ?_; tbn_below) | (walk_say "OMEGA"; omega)))
local macro_rules | `(tactic| tbn_lt) => `(tactic| first | with_reducible assumption | k_mem | k_updF | k_ne | exact rfl | omega | ktr_room | ktr_units | assumption | kn_code | exact LastV.opt (by with_reducible assumption) | exact ⟨by k_ne, by k_ne, by k_ne, by k_ne, by k_ne, by k_ne⟩)
local macro_rules | `(tactic| k_in) => `(tactic| exact Frag.In.keeps (by with_reducible assumption) (Fr.keep (by with_reducible assumption)))
local macro_rules | `(tactic| walk_at "compareOp Eq str str") => `(tactic| (k_here; (with_reducible refine eq_same ?_); walk_say "EQSAME"))
local macro_rules | `(tactic| walk_at "call builtin:len") => `(tactic| (k_here; (with_reducible show wpAny _ _ (call (Value.builtin "len") [Value.str (textOf _ _) _]) _ _ _); (refine PyProof.Rows.len_str ?hh ?_; (case hh => omega)); walk_say "LEN"))
local macro_rules | `(tactic| walk_at "binaryOp Mult str int") => `(tactic| (k_here; (with_reducible show wpAny _ _ (binaryOp Operator.Mult (Value.str (textOf _ _) _) (Value.int _ _)) _ _ _); (refine mul_short ?h1 ?h2 ?h3 ?_; (case h1 => omega); (case h2 => omega); (case h3 => omega)); intro _ _; walk_say "MULS"))
local macro_rules | `(tactic| walk_at "binaryOp Add str str") => `(tactic| (k_here; (with_reducible show wpAny _ _ (binaryOp Operator.Add (Value.str _ _) (Value.str _ _)) _ _ _); (refine' PyProof.Rows.add_str ?_ ?sz; (case sz => (rw [sizeLine_eq]; (try simp only [PySem.Str.length_append, len_1, len_2, len_3, len_4, len_5, len_6]); omega))); intro _ _; walk_say "ADDED"))
local macro_rules | `(tactic| walk_at "call ref") => `(tactic| (k_here; (with_reducible show wpAny _ _ (call (Value.ref 426) _) _ _ _); k_dflt (apply lhex_K; iterate 9 tbn_lt); intro t h' tk' F' N'; (try k_sweep); walk_say "LHEX"))
local macro_rules | `(tactic| walk_at "callWith ref") => `(tactic| (k_here; k_dflt (first | (refine' callWith_K ?k1 ?k2 ?_; (case k1 => k_asm); (case k2 => k_is); k_whole) | (refine' callWith_K0 ?k1 ?k2 ?_; (case k1 => k_in); (case k2 => k_is); k_whole))))
local macro_rules | `(tactic| walk_at "setAttr ref") => `(tactic| (k_here; (with_reducible show wpAny _ _ (setAttr _ (Str.ofString "blessed") _) _ _ _); k_dflt (apply setb_use; iterate 6 tbn_lt); intro h' tk' F' N'; (try dsimp only at N'); (try k_sweep); walk_say "SETB"))
theorem right_K : ∀ {w : World} {p : Program} {loose : List Str} {mean : ExcName → Option Value} {mg mb : Str → Option Value}
    {dp un : Nat} {gd : Option (List Code)} {cn : Str} {cs : Scope} {a : Addr} {ccd : Value} {cl : List (Str × Addr)} {A₀ : Around} {base h₀ : Heap} {L : Addr} {m : Str → Option Value} {s : Shared} {Q E : Value → Shared → Prop}
    {pond held run dr lim dl l k1 k2 k3 I : Nat} {op oh o1 o2 o3 oI : Obj} {ps : Array Value} {t3 tk : Tok}
    {b1 b2 b3 b4 b5 c1 c2 c3 c4 c5 : Tok} {ra : Nat → Tok} {d5 : Value} {rd : Nat → Value}
    {at_ number : Int} {hv : Value} {vs : List Value} {ns : List Int},
    Below A₀ base [] h₀ → Fr h₀ L s.heap m → (hd.heap_1 w.params).In h₀ →
    News h₀ L s.heap [(I, oI), (held, oh), (run, instObj 320 dr), (dr, runO w ra lim d5 rd),
      (lim, instObj 401 dl), (dl, limObj w b1 b2 b3 b4 b5 c1 c2 c3 c4 c5), (k1, o1), (k2, o2), (k3, o3), (l, listOf vs.toArray 0), (pond, op), (435, tabObj ps)] →
    Top p loose mean mg mb h₀ → CodeHd base 439 435 → (hd.heap_1 w.params).In base → Top p loose mean mg mb base → cs.kind = .function →
    435 < pond → pond < l → l < dl → dl < lim → lim < dr → dr < run → run < held → held < I → (pond == sysModules) = false → (held == sysModules) = false →
    k1 ≠ 435 → k2 ≠ 435 → k3 ≠ 435 → k1 ≠ pond → k2 ≠ pond → k3 ≠ pond → k1 ≠ dr → k2 ≠ dr → k3 ≠ dr → k1 ≠ held → k2 ≠ held → k3 ≠ held → k1 ≠ I → k2 ≠ I → k3 ≠ I →
    SL ps k1 k2 k3 o1 o2 o3 qT qL I →
    op.IsDictOf (strKind PySem.Challenge.rw_qz0094_01.row.prog w) [("script", .ref l), ("at", .int at_ t3)] →
    oh.IsDictOf (strKind PySem.Challenge.rw_qz0094_01.row.prog w) [("value", hv)] →
    IntsAre vs ns → ns.length ≤ 63 → 0 ≤ at_ → at_ ≤ 90 → Num number → dp + 60 < recursionLimit → un + 1000 < cLine →
    (∀ (op' oh' o1' o2' o3' : Obj) (k1' k2' k3' : Nat) (ps' : Array Value) (d5' hv' : Value) (t3' : Tok) (h' : Heap) (tk' : Nat), Fr h₀ L h' m →
      News h₀ L h' [(I, oI), (held, oh'), (run, instObj 320 dr), (dr, runO w ra lim d5' rd),
      (lim, instObj 401 dl), (dl, limObj w b1 b2 b3 b4 b5 c1 c2 c3 c4 c5), (k1', o1'), (k2', o2'), (k3', o3'), (l, listOf vs.toArray 0), (pond, op'), (435, tabObj ps')] →
      k1' ≠ 435 → k2' ≠ 435 → k3' ≠ 435 → k1' ≠ pond → k2' ≠ pond → k3' ≠ pond → k1' ≠ dr → k2' ≠ dr → k3' ≠ dr → k1' ≠ held → k2' ≠ held → k3' ≠ held → k1' ≠ I → k2' ≠ I → k3' ≠ I →
      SL ps' k1' k2' k3' o1' o2' o3' qT qL I →
      op'.IsDictOf (strKind PySem.Challenge.rw_qz0094_01.row.prog w) [("script", .ref l), ("at", .int (at_ + 1 + 1 + 1 + 1 + 1) t3')] →
      oh'.IsDictOf (strKind PySem.Challenge.rw_qz0094_01.row.prog w) [("value", hv')] → Q (.bool true) { s with heap := h', toks := tk' }) →
    wpAny (model PySem.Challenge.rw_qz0094_01.row.prog w) (ktrTop dp un gd cn cs L a ccd cl []) (call (.ref 440) [.ref pond, .ref run, .ref held, .int number tk]) Q E s := by
  k_fill
  intro w p loose mean mg mb dp un gd cn cs a ccd cl A₀ base h₀ L m s Q E pond held run dr lim dl l k1 k2 k3 I op oh o1 o2 o3 oI ps t3 tk
  intro b1 b2 b3 b4 b5 c1 c2 c3 c4 c5 ra d5 rd
  intro at_ number hv vs ns B F X N T C XB TB hk l1 l2 l3 l4 l5 l6 l7 l8 lo1 lo2 n1 n2 n3 n4 n5 n6 n7 n8 n9 n10 n11 n12 n13 n14 n15 hsl hd1 hd2 hI hlen h0 h1 hnum hdp hun hret
  have hhx := len_hexs number
  refine wpAny_call ?_
  k_dflt (refine' code_CS ?k1 ?k2 ?k3 ?k4 ?k5 ?kA ?kF ?kK ?k6 ?k7 ?k8 ?k9 ?kB ?kD ?_ ?c2 ?c3 ?c4; (case kA => exact rfl); (case kF => exact rfl); (case kK => assumption); (case k1 => k_asm); (case k2 => k_asm); (case k3 => k_asm); (case k4 => k_asm); (case k5 => k_asm); (case k6 => k_is); (case k7 => k_is); (case k8 => ktr_room); (case k9 => exact BindsTo.of_eq rfl); (case kB => exact rfl); (case kD => decide +kernel); (case c2 => exact rfl); (case c3 => exact rfl); (case c4 => exact rfl); k_whole; intro g' L' h' tk' cells' FG' F' N' Y' B' X' T' D' lf; k_cells Y'; (try simp only [List.cons_append, List.nil_append] at N'); (try dsimp only); (try k_lift B'); (try k_fold))
  have zp := ltc oI l1 (ltc0 (a := 435))
  have zl := ltc oI l2 zp
  have zdl := ltc oI l3 zl
  have zlim := ltc oI l4 zdl
  have zdr := ltc oI l5 zlim
  have zrun := ltc oI l6 zdr
  have zheld := ltc oI l7 zrun
  have zI := ltc oI l8 zheld
  have zc1 := lt_up lf
  have zc2 := lt_next oI zc1
  have zc3 := lt_next oI zc2
  have zc4 := lt_next oI zc3
  have zc5 := lt_next oI zc4
  have zc6 := lt_next oI zc5
  have zc7 := lt_next oI zc6
  clear lf
  iterate 9 (first | (k_unfold; (try dsimp only)) | walk1 | (dsimp only; walk1) | (leave1; (try dsimp only)))
  k_here; (with_reducible show wpAny _ _ (call (Value.ref 157) _) _ _ _); k_dflt (apply hash_K; iterate 8 tbn_lt); intro x d rb rc h' tk' F' N' l1 l2; (try k_sweep)
  iterate 21 (first | (k_unfold; (try dsimp only)) | walk1 | (dsimp only; walk1) | (leave1; (try dsimp only)))
  k_here; (with_reducible show wpAny _ _ (call (Value.ref 419) _) _ _ _); k_dflt (apply dip_use; iterate 19 tbn_lt); intro v o' t t3' h' tk' hv0 hv1 F' N' hd'; (try dsimp only at N'); (try k_sweep)
  k_here; (with_reducible show wpAny _ _ (subscriptTail _ (Expr.Call _ _ _ _) (Value.ref _) (Value.int _ _)) _ _ _); (with_unfolding_all refine' pick_any ?k1_z3 ?k2_z3 ?k3_z3 ?k4_z3 ?k5_z3 ?_ ?k6_z3; (case k1_z3 => is_list); (case k2_z3 => omega); (case k3_z3 => (simp only [List.length_cons, List.length_nil]; omega)); (case k4_z3 => omega); (case k5_z3 => first | exact name_all | exact oldv_all | exact opt_all (by assumption) | exact count_all); (case k6_z3 => with_unfolding_all rfl); k_whole); intro v hP; (first | (have hh := NameV.handed hP) | (have hh := OldV.handed hP) | (have hh := OptV.handed hP) | (have hh := CountV.handed hP))
  iterate 11 (first | (k_unfold; (try dsimp only)) | walk1 | (dsimp only; walk1) | (leave1; (try dsimp only)))
  k_here; (with_reducible show wpAny _ _ (call (Value.ref 215) _) _ _ _); k_dflt (apply ref_K; iterate 8 tbn_lt); intro x d a1 a2 x2 h' tk' F' N' l1 l2; (try k_sweep)
  iterate 33 (first | (k_unfold; (try dsimp only)) | walk1 | (dsimp only; walk1) | (leave1; (try dsimp only)))
  k_here; (with_reducible show wpAny _ _ (call (Value.ref 419) _) _ _ _); k_dflt (apply dip_use; iterate 19 tbn_lt); intro v o' t t3' h' tk' hv0 hv1 F' N' hd'; (try dsimp only at N'); (try k_sweep)
  k_here; (with_reducible show wpAny _ _ (subscriptTail _ (Expr.Call _ _ _ _) (Value.ref _) (Value.int _ _)) _ _ _); (with_unfolding_all refine' pick_any ?k1_z6 ?k2_z6 ?k3_z6 ?k4_z6 ?k5_z6 ?_ ?k6_z6; (case k1_z6 => is_list); (case k2_z6 => omega); (case k3_z6 => (simp only [List.length_cons, List.length_nil]; omega)); (case k4_z6 => omega); (case k5_z6 => first | exact name_all | exact oldv_all | exact opt_all (by assumption) | exact count_all); (case k6_z6 => with_unfolding_all rfl); k_whole); intro v hP; (first | (have hh := NameV.handed hP) | (have hh := OldV.handed hP) | (have hh := OptV.handed hP) | (have hh := CountV.handed hP))
  iterate 37 (first | (k_unfold; (try dsimp only)) | walk1 | (dsimp only; walk1) | (leave1; (try dsimp only)))
  k_here; (with_reducible show wpAny _ _ (call (Value.ref 419) _) _ _ _); k_dflt (apply dip_use; iterate 19 tbn_lt); intro v o' t t3' h' tk' hv0 hv1 F' N' hd'; (try dsimp only at N'); (try k_sweep)
  k_here; (with_reducible show wpAny _ _ (subscriptTail _ (Expr.Call _ _ _ _) (Value.ref _) (Value.int _ _)) _ _ _); (with_unfolding_all refine' pick_any ?k1_z8 ?k2_z8 ?k3_z8 ?k4_z8 ?k5_z8 ?_ ?k6_z8; (case k1_z8 => is_list); (case k2_z8 => omega); (case k3_z8 => (simp only [List.length_cons, List.length_nil]; omega)); (case k4_z8 => omega); (case k5_z8 => first | exact name_all | exact oldv_all | exact opt_all (by assumption) | exact count_all); (case k6_z8 => with_unfolding_all rfl); k_whole); intro v hP; (first | (have hh := NameV.handed hP) | (have hh := OldV.handed hP) | (have hh := OptV.handed hP) | (have hh := CountV.handed hP))
  iterate 11 (first | (k_unfold; (try dsimp only)) | walk1 | (dsimp only; walk1) | (leave1; (try dsimp only)))
  k_here; (with_reducible show wpAny _ _ (call (Value.ref 419) _) _ _ _); k_dflt (apply dip_use; iterate 19 tbn_lt); intro v o' t t3' h' tk' hv0 hv1 F' N' hd'; (try dsimp only at N'); (try k_sweep)
  k_here; (with_reducible show wpAny _ _ (subscriptTail _ (Expr.Call _ _ _ _) (Value.ref _) (Value.int _ _)) _ _ _); (with_unfolding_all refine' pick_any ?k1_z10 ?k2_z10 ?k3_z10 ?k4_z10 ?k5_z10 ?_ ?k6_z10; (case k1_z10 => is_list); (case k2_z10 => omega); (case k3_z10 => (simp only [List.length_cons, List.length_nil]; omega)); (case k4_z10 => omega); (case k5_z10 => first | exact name_all | exact oldv_all | exact opt_all (by assumption) | exact count_all); (case k6_z10 => with_unfolding_all rfl); k_whole); intro v hP; (first | (have hh := NameV.handed hP) | (have hh := OldV.handed hP) | (have hh := OptV.handed hP) | (have hh := CountV.handed hP))
  iterate 14 (first | (k_unfold; (try dsimp only)) | walk1 | (dsimp only; walk1) | (leave1; (try dsimp only)))
  k_here; (with_reducible show wpAny _ _ (call (Value.ref 419) _) _ _ _); k_dflt (apply dip_use; iterate 19 tbn_lt); intro v o' t t3' h' tk' hv0 hv1 F' N' hd'; (try dsimp only at N'); (try k_sweep)
  iterate 1 (first | (k_unfold; (try dsimp only)) | walk1 | (dsimp only; walk1) | (leave1; (try dsimp only)))
  k_here; (with_reducible show wpAny _ _ (compareOp CmpOp.Eq (Value.int _ _) (Value.int 2 _)) _ _ _); (fail_if_success (with_reducible show wpAny _ _ (compareOp CmpOp.Eq (Value.int 1 _) (Value.int 2 _)) _ _ _)); (refine eq_opq ?_); intro b
  iterate 10 (first | (k_unfold; (try dsimp only)) | walk1 | (dsimp only; walk1) | (leave1; (try dsimp only)))
  k_here; (with_reducible show wpAny _ _ (eval (Expr.IfExp (Expr.Compare (Expr.Name (Str.ofString "name") _) _ _ _) _ _ _) _) _ _ _); (fail_if_success (with_reducible rename InCut => zz)); (k_dflt (refine' cut_last (by k_asm : OldV _) (by k_asm : OptV _) ?F_z13 ?N_z13 ?h1_z13 ?h2_z13 ?_; (case F_z13 => k_asm); (case N_z13 => k_asm); (case h1_z13 => (have ic : InCut := ⟨⟩; intro e; subst e; k_steps; all_goals exact ⟨rfl, _, _, rfl, by k_asm, by k_asm⟩)); (case h2_z13 => (have ic : InCut := ⟨⟩; intro x t e; subst e; k_steps; all_goals exact ⟨rfl, _, _, rfl, by k_asm, by k_asm⟩)))); intro lv h' tk' hlv hh F' N'; (try k_sweep)
  iterate 3 (first | (k_unfold; (try dsimp only)) | walk1 | (dsimp only; walk1) | (leave1; (try dsimp only)))
  k_here; (with_reducible show wpAny _ _ (eval (Expr.BinOp (Expr.BinOp (Expr.BinOp (Expr.IfExp _ _ _ _) _ _ _) _ _ _) _ _ _) _) _ _ _); (fail_if_success (with_reducible rename InCut => zz)); (k_dflt (refine' cut_text (by k_asm : LastV _ _ _) (by k_asm : Num _) ?F_z14 ?N_z14 ?h1_z14 ?h2_z14 ?_; (case F_z14 => k_asm); (case N_z14 => k_asm); (case h1_z14 => (have ic : InCut := ⟨⟩; intro e; subst e; k_steps; all_goals exact ⟨⟨_, congrArg (fun z => Value.str z _) (txt2 _)⟩, _, _, rfl, by k_asm, by k_asm⟩)); (case h2_z14 => (have ic : InCut := ⟨⟩; intro x t e hx1 hx2; subst e; k_steps; all_goals exact ⟨⟨_, congrArg (fun z => Value.str z _) (txt3 _ _ _)⟩, _, _, rfl, by k_asm, by k_asm⟩)))); intro T t h' tk' hT hT1 hT2 F' N'; subst hT; (try k_sweep)
  iterate 3 (first | (k_unfold; (try dsimp only)) | walk1 | (dsimp only; walk1) | (leave1; (try dsimp only)))
  k_here; (with_reducible show wpAny _ _ (eval (Expr.IfExp (Expr.Compare (Expr.Name (Str.ofString "count") _) _ _ _) _ _ _) _) _ _ _); (fail_if_success (with_reducible rename InCut => zz)); (k_dflt (refine' cut_times (by k_asm : CountV _) ?F_z15 ?N_z15 ?h1_z15 ?h2_z15 ?_; (case F_z15 => k_asm); (case N_z15 => k_asm); (case h1_z15 => (have ic : InCut := ⟨⟩; intro i t e; subst e; k_steps; all_goals exact ⟨⟨_, congrArg (fun z => Value.int z _) (by first | rfl | omega | (split <;> omega))⟩, _, _, rfl, by k_asm, by k_asm⟩)); (case h2_z15 => (have ic : InCut := ⟨⟩; intro t e; subst e; k_steps; all_goals exact ⟨⟨_, rfl⟩, _, _, rfl, by k_asm, by k_asm⟩)))); intro T t h' tk' hti F' N'; (have htn := TimesV.nn hti); (have htu := TimesV.up hti); (try k_sweep)
  iterate 3 (first | (k_unfold; (try dsimp only)) | walk1 | (dsimp only; walk1) | (leave1; (try dsimp only)))
  k_here; (with_reducible show wpAny _ _ (eval (Expr.IfExp (Expr.Compare (Expr.BinOp _ _ _ _) _ _ _) _ _ _) _) _ _ _); (fail_if_success (with_reducible rename BigF _ _ _ => zz)); (fail_if_success (with_reducible rename SmallF _ _ => zz)); (fail_if_success (with_reducible rename InCut => zz)); (k_dflt (refine' cut_due ?hT_z16 ?ht_z16 ?F_z16 ?N_z16 ?h1_z16 ?h2_z16 ?_; (case ht_z16 => k_asm); (case hT_z16 => k_asm); (case F_z16 => k_asm); (case N_z16 => k_asm); (case h1_z16 => (have ic : InCut := ⟨⟩; intro hb hb1 hb2 hb3; k_steps; all_goals exact ⟨⟨_, rfl⟩, _, _, rfl, by k_asm, by k_asm⟩)); (case h2_z16 => (have ic : InCut := ⟨⟩; intro hb hb1; k_steps; all_goals exact ⟨⟨_, rfl⟩, _, _, rfl, by k_asm, by k_asm⟩)))); intro D t h' tk' hD F' N'; (try k_sweep)
  iterate 2 (first | (k_unfold; (try dsimp only)) | walk1 | (dsimp only; walk1) | (leave1; (try dsimp only)))
  k_here; kn_here; k_dflt (refine' nestDef_K ?d0_z17 ?k0_z17 ?a0_z17 ?_; (case d0_z17 => exact rfl); (case k0_z17 => exact rfl); (case a0_z17 => exact rfl)); k_dflt (refine' told_make ?F_z17 ?N_z17 ?T_z17 ?cd_z17 ?C_z17 ?S_z17 ?U_z17 ?hk_z17 ?mI_z17 ?hP_z17 ?hH_z17 ?m0_z17 ?m1_z17 ?m2_z17 ?m3_z17 ?m4_z17 ?Kk_z17 ?cl_z17 ?_; (case F_z17 => k_asm); (case N_z17 => k_asm); (case T_z17 => k_asm); (case cd_z17 => exact rfl); (case C_z17 => kn_code); (case S_z17 => k_asm); (case U_z17 => k_updF); (case hk_z17 => k_mem); (case mI_z17 => k_mem); (case hP_z17 => k_asm); (case hH_z17 => k_asm); (case m0_z17 => k_mem); (case m1_z17 => k_mem); (case m2_z17 => k_mem); (case m3_z17 => k_mem); (case m4_z17 => k_mem); (case Kk_z17 => exact ⟨by k_ne, by k_ne, by k_ne, by k_ne, by k_ne, by k_ne⟩); (case cl_z17 => exact rfl); k_whole); intro f' c' oc' ps' vs' t' ct' dc' h' tk' F' N' d1' d2' hkc hkI l1 l2 hsl; obtain ⟨hkc1, hkc2, hkc3, hkc4, hkc5⟩ := hkc; (try dsimp only at N'); (try k_lt l1); (try k_lt2 l2); (try k_sweep)
  iterate 10 (first | (k_unfold; (try dsimp only)) | walk1 | (dsimp only; walk1) | (leave1; (try dsimp only)))
  k_here; (with_reducible show wpAny _ _ (setAttr _ (Str.ofString "nodes") _) _ _ _); k_dflt (apply setn_use; iterate 6 tbn_lt); intro h' tk' F' N'; (try dsimp only at N'); (try k_sweep)
  iterate 6 (first | (k_unfold; (try dsimp only)) | walk1 | (dsimp only; walk1) | (leave1; (try dsimp only)))
  k_here; kn_here; (with_reducible show wpAny _ _ (eval (Expr.Lambda _ (Expr.Call (Expr.Name (Str.ofString "node_repeat") _) _ _ _) _ _) _) _ _ _); k_dflt (refine' kla_eval ?d0_z19 ?_; (case d0_z19 => exact rfl)); (k_dflt (refine' lam2_make ?F_z19 ?N_z19 ?T_z19 ?cd_z19 ?C_z19 ?S_z19 ?U_z19 ?hk_z19 ?mI_z19 ?hP_z19 ?hH_z19 ?m0_z19 ?m1_z19 ?m2_z19 ?m3_z19 ?m4_z19 ?Kk_z19 ?cl_z19 ?_; (case F_z19 => k_asm); (case N_z19 => k_asm); (case T_z19 => k_asm); (case cd_z19 => exact rfl); (case C_z19 => kn_code); (case S_z19 => k_asm); (case U_z19 => k_updF); (case hk_z19 => k_mem); (case mI_z19 => k_mem); (case hP_z19 => k_asm); (case hH_z19 => k_asm); (case m0_z19 => k_mem); (case m1_z19 => k_mem); (case m2_z19 => k_mem); (case m3_z19 => k_mem); (case m4_z19 => k_mem); (case Kk_z19 => exact ⟨by k_ne, by k_ne, by k_ne, by k_ne, by k_ne, by k_ne⟩); (case cl_z19 => exact rfl); k_whole)); intro f' c' oc' ps' vs' t' ct' h' tk' F' N' d1' d2' hkc hkI l1 l2 hsl; obtain ⟨hkc1, hkc2, hkc3, hkc4, hkc5⟩ := hkc; (try dsimp only at N'); (try k_lt l1); (try k_lt2 l2); (try k_sweep)
  iterate 2 (first | (k_unfold; (try dsimp only)) | walk1 | (dsimp only; walk1) | (leave1; (try dsimp only)))
  k_here; (with_reducible show wpAny _ _ (call (Value.ref 433) _) _ _ _); (fail_if_success (with_reducible rename HeldV _ _ _ => zz)); (fail_if_success (with_reducible rename InH1 => zz)); (k_dflt (refine' cut_heard1 (P := fun o v => Obj.IsDictOf (PySem.strKind _ _) o [(Str.ofString "value", v)]) ?hl_z20 ?hD_z20 ?hb_z20 ?hd_z20 ?F_z20 ?N_z20 ?B_z20 ?X_z20 ?T_z20 ?Dd_z20 ?m1_z20 ?U1_z20 ?m2_z20 ?U2_z20 ?ya1_z20 ?ya3_z20; (case hl_z20 => k_asm); (case hD_z20 => k_asm); (case hb_z20 => k_asm); (case hd_z20 => ((try dsimp only); k_asm)); (case F_z20 => k_asm); (case N_z20 => k_asm); (case B_z20 => k_asm); (case X_z20 => k_asm); (case T_z20 => k_asm); (case Dd_z20 => k_asm); (case m1_z20 => k_mem); (case U1_z20 => k_updF); (case m2_z20 => k_mem); (case U2_z20 => k_updF); (case' ya3_z20 => (intro oh' hv t kg h' tk' hd' hhv hvh kT F' N' B' X' P' D'; (try dsimp only at N'); (try dsimp only at hd'); (try k_lift B'); (try k_sweep))); (case' ya1_z20 => intro _)))
  k_here; (with_reducible show wpAny _ _ (call (Value.ref 433) _) _ _ _); k_dflt (refine wpAny_call ?_; refine' code_S ?B_z21 ?F_z21 ?X_z21 ?N_z21 ?T_z21 ?XB_z21 ?TB_z21 ?D_z21 ?T0_z21 ?hA_z21 ?hf_z21 ?hke_z21 ?ho_z21 ?hcd_z21 ?hroom_z21 ?hbind_z21 ?hloc_z21 ?_ ?c1_z21 ?c2_z21 ?c3_z21 ?c4_z21; (case hA_z21 => exact rfl); (case hf_z21 => exact rfl); (case hke_z21 => exact rfl); (case F_z21 => k_asm); (case B_z21 => k_asm); (case X_z21 => k_asm); (case N_z21 => k_asm); (case T_z21 => k_asm); (case XB_z21 => k_asm); (case TB_z21 => k_asm); (case D_z21 => k_asm); (case T0_z21 => first | k_asm | exact KtsTurn.refl); (case ho_z21 => k_is); (case hcd_z21 => k_is); (case hroom_z21 => k_room); (case hbind_z21 => exact BindsTo.of_eq rfl); (case hloc_z21 => exact locs rfl); (case c1_z21 => exact rfl); (case c2_z21 => exact rfl); (case c3_z21 => exact rfl); (case c4_z21 => decide); k_whole); intro g' L' h' FG' F' N' B' X' T' D' l1; (try k_lt l1); (try dsimp only); (try k_lift B'); (try k_fold); (try k_sweep)
  iterate 161 (first | (k_unfold; (try dsimp only)) | walk1 | (dsimp only; walk1) | (leave1; (try dsimp only)))
  k_here; (with_reducible show wpAny _ _ (call _ [Value.ref _, Value.ref _]) _ _ _); k_dflt (refine' kin_callC ?k1_z22 ?k2_z22 ?k3_z22 ?k4_z22 ?k5_z22 ?k6_z22 ?k7_z22 ?k8_z22 ?k9_z22 ?_; (case k1_z22 => k_in); (case k2_z22 => k_inst); (case k3_z22 => kin_no); (case k4_z22 => k_is); (case k5_z22 => k_is); (case k6_z22 => k_is); (case k7_z22 => k_is); (case k8_z22 => k_is); (case k9_z22 => k_is); k_whole)
  iterate 103 (first | (k_unfold; (try dsimp only)) | walk1 | (dsimp only; walk1) | (leave1; (try dsimp only)))
  k_here; (with_reducible show wpAny _ _ (exec (Stmt.If (Expr.Compare (Expr.Name (Str.ofString "name") _) _ _ _) _ _ _) _) _ _ _); (fail_if_success (with_reducible rename InCut => zz)); (k_dflt (refine' cut_bless (by k_asm : LastV _ _ _) (by k_asm : OptV _) ?F_z23 ?N_z23 ?m_z23 ?U_z23 ?h1_z23 ?h2_z23 ?_; (case F_z23 => k_asm); (case N_z23 => k_asm); (case m_z23 => k_mem); (case U_z23 => k_updF); (case h1_z23 => (have ic : InCut := ⟨⟩; intro e; subst e; k_steps; all_goals exact ⟨rfl, _, _, rfl, by k_asm, by k_asm⟩)); (case h2_z23 => (have ic : InCut := ⟨⟩; intro x t e; subst e; k_steps; all_goals exact ⟨rfl, _, _, rfl, by k_asm, by k_asm⟩)))); intro h' tk' F' N'; (try dsimp only at N'); (try k_sweep)
  iterate 1 (first | (k_unfold; (try dsimp only)) | walk1 | (dsimp only; walk1) | (leave1; (try dsimp only)))
  k_here; (with_reducible show wpAny _ _ (exec (Stmt.If (Expr.Name (Str.ofString "other") _) _ _ _) _) _ _ _); (fail_if_success (with_reducible rename InCut => zz)); (k_dflt (refine' cut_otherS (P := fun o v => Obj.IsDictOf (PySem.strKind _ _) o [(Str.ofString "value", v)]) ?hb_z24 ?hd_z24 ?F_z24 ?N_z24 ?m_z24 ?U_z24 ?yc1_z24 ?h2_z24 ?yc3_z24; (case hb_z24 => k_asm); (case hd_z24 => k_asm); (case F_z24 => k_asm); (case N_z24 => k_asm); (case m_z24 => k_mem); (case U_z24 => k_updF); (case yc1_z24 => (intro _ hb; subst hb; k_steps; all_goals exact ⟨rfl, _, _, rfl, by k_asm, by k_asm⟩)); (case h2_z24 => (intro _ hb; subst hb; k_steps; all_goals exact ⟨_, _, by k_asm, rfl, _, _, rfl, by k_asm, by k_asm⟩)); (case' yc3_z24 => (intro oh' hv' h' tk' hd' hheld hh F' N'; (try dsimp only at N'); (try dsimp only at hd'); (try k_sweep)))))
  iterate 21 (first | (k_unfold; (try dsimp only)) | walk1 | (dsimp only; walk1) | (leave1; (try dsimp only)))
  k_here; (fail_if_success (with_reducible show wpAny _ _ (call _ [Value.ref _, _]) _ _ _)); (fail_if_success (with_reducible show wpAny _ _ (call _ [Value.int _ _, _]) _ _ _)); (fail_if_success (with_reducible show wpAny _ _ (call _ [Value.str _ _, _]) _ _ _)); (fail_if_success (with_reducible rename InCut => zz)); (k_dflt (refine' cut_isn (cv := ?cv_z25) ?hc_z25 ?F_z25 ?N_z25 ?h1_z25 ?h2_z25 ?_; (case hc_z25 => k_asm); (case F_z25 => k_asm); (case N_z25 => k_asm); (case h1_z25 => (have ic : InCut := ⟨⟩; intro i t e; subst e; k_steps; all_goals exact ⟨rfl, _, _, rfl, by k_asm, by k_asm⟩)); (case h2_z25 => (have ic : InCut := ⟨⟩; intro t e; subst e; k_steps; all_goals exact ⟨rfl, _, _, rfl, by k_asm, by k_asm⟩)))); intro h' tk' F' N'; (try k_sweep)
  iterate 13 (first | (k_unfold; (try dsimp only)) | walk1 | (dsimp only; walk1) | (leave1; (try dsimp only)))
  k_here; (with_reducible show wpAny _ _ (call (Value.ref 261) _) _ _ _); k_dflt (apply tonum_use; iterate 11 tbn_lt); intro t h' tk' F' N'; (try k_sweep)
  iterate 15 (first | (k_unfold; (try dsimp only)) | walk1 | (dsimp only; walk1) | (leave1; (try dsimp only)))
  k_here; (with_reducible show wpAny _ _ (call (Value.ref 254) [Value.ref _]) _ _ _); k_dflt (apply totext_use; iterate 14 tbn_lt); intro t h' tk' F' N'; (try k_sweep)
  iterate 8 (first | (k_unfold; (try dsimp only)) | walk1 | (dsimp only; walk1) | (leave1; (try dsimp only)))
  k_here; (with_reducible show wpAny _ _ (call (Value.ref 364) _) _ _ _); (fail_if_success (with_reducible rename BigF _ _ _ => zz)); (fail_if_success (with_reducible rename SmallF _ _ => zz)); (refine due_cases (by k_asm : DueS _ _ _ _) (fun hD hb hb1 hb2 hb3 => ?_) (fun hD hb hb1 => ?_))
  iterate 15 (first | (k_unfold; (try dsimp only)) | walk1 | (dsimp only; walk1) | (leave1; (try dsimp only)))
  k_here; (with_reducible show wpAny _ _ (compareOp CmpOp.Eq (Value.str (textOf _ _) _) (Value.str (Str.ofString "") _)) _ _ _); (refine eq_empty ?hh_z29 ?_; (case hh_z29 => omega))
  iterate 27 (first | (k_unfold; (try dsimp only)) | walk1 | (dsimp only; walk1) | (leave1; (try dsimp only)))
  k_here; (k_dflt (refine' raise_die ?X_z30 ?hC_z30 ?hb_z30 ?hh_z30 ?_; (case X_z30 => k_asm); (case hC_z30 => k_is); (case hb_z30 => rfl); (case hh_z30 => first | exact rfl | k_asm)))
  iterate 7 (first | (k_unfold; (try dsimp only)) | walk1 | (dsimp only; walk1) | (leave1; (try dsimp only)))
  k_here; (with_reducible show wpAny _ _ (call (Value.ref 51) [Value.str _ _]) _ _ _); k_dflt (apply die_K; iterate 8 tbn_lt); intro e t₁ dx tt h' tk' F' N' hne; (try k_sweep)
  k_here; k_dflt (refine RaiseOk.of (by k_asm) (by k_asm) ?_)
  iterate 1 (first | (k_unfold; (try dsimp only)) | walk1 | (dsimp only; walk1) | (leave1; (try dsimp only)))
  k_here; (with_reducible rename KtsDicts _ _ => kdX); first | (k_dflt (refine' leave_onX ?K_z33 ?F_z33 ?R_z33 ?U_z33 ?_ ?hf_z33; (case R_z33 => k_asm); (case F_z33 => k_asm); (case K_z33 => k_asm); (case U_z33 => k_asm); (case hf_z33 => exact rfl)); intro h' R' U'; (try dsimp only at R' U' ⊢)) | (k_dflt (refine' leave_first ?K_z33 ?F_z33 ?N_z33 ?hne_z33 ?_ ?hf_z33 ?hke_z33; (case N_z33 => k_asm); (case F_z33 => k_asm); (case K_z33 => k_asm); (case hne_z33 => k_asm); (case hf_z33 => exact rfl); (case hke_z33 => exact rfl)); intro h' R' U'; (try dsimp only at R' U' ⊢))
  k_here; (with_reducible rename KtsDicts _ _ => kdX); first | (k_dflt (refine' leave_onX ?K_z34 ?F_z34 ?R_z34 ?U_z34 ?_ ?hf_z34; (case R_z34 => k_asm); (case F_z34 => k_asm); (case K_z34 => k_asm); (case U_z34 => k_asm); (case hf_z34 => exact rfl)); intro h' R' U'; (try dsimp only at R' U' ⊢)) | (k_dflt (refine' leave_first ?K_z34 ?F_z34 ?N_z34 ?hne_z34 ?_ ?hf_z34 ?hke_z34; (case N_z34 => k_asm); (case F_z34 => k_asm); (case K_z34 => k_asm); (case hne_z34 => k_asm); (case hf_z34 => exact rfl); (case hke_z34 => exact rfl)); intro h' R' U'; (try dsimp only at R' U' ⊢))
  iterate 1 (first | (k_unfold; (try dsimp only)) | walk1 | (dsimp only; walk1) | (leave1; (try dsimp only)))
  k_here; (with_reducible rename KtsDicts _ _ => kdX); first | (k_dflt (refine' leave_onX ?K_z35 ?F_z35 ?R_z35 ?U_z35 ?_ ?hf_z35; (case R_z35 => k_asm); (case F_z35 => k_asm); (case K_z35 => k_asm); (case U_z35 => k_asm); (case hf_z35 => exact rfl)); intro h' R' U'; (try dsimp only at R' U' ⊢)) | (k_dflt (refine' leave_first ?K_z35 ?F_z35 ?N_z35 ?hne_z35 ?_ ?hf_z35 ?hke_z35; (case N_z35 => k_asm); (case F_z35 => k_asm); (case K_z35 => k_asm); (case hne_z35 => k_asm); (case hf_z35 => exact rfl); (case hke_z35 => exact rfl)); intro h' R' U'; (try dsimp only at R' U' ⊢))
  iterate 6 (first | (k_unfold; (try dsimp only)) | walk1 | (dsimp only; walk1) | (leave1; (try dsimp only)))
  k_here; k_dflt (refine' Hrd1.of ?hD_z36 ?hh_z36 ?hp_z36 ?F_z36 ?N_z36 ?T0_z36 ?B_z36 ?X_z36 ?T_z36 ?Dd_z36 ?M_z36; (case hD_z36 => with_reducible assumption); (case hh_z36 => k_asm); (case hp_z36 => ((try dsimp only); k_asm)); (case F_z36 => k_asm); (case N_z36 => k_asm); (case T0_z36 => first | k_asm | exact KtsTurn.refl); (case B_z36 => k_asm); (case X_z36 => k_asm); (case T_z36 => k_asm); (case Dd_z36 => k_asm); (case M_z36 => ((try dsimp only); (repeat (first | exact List.forall_mem_nil _ | (refine List.forall_mem_cons.mpr ⟨by k_mem, ?_⟩))))))
  k_here; (with_reducible show wpAny _ _ (call (Value.ref 364) _) _ _ _); k_dflt (apply repok_use; iterate 14 tbn_lt); intro t h' tk' F' N'; (try k_sweep)
  iterate 3 (first | (k_unfold; (try dsimp only)) | walk1 | (dsimp only; walk1) | (leave1; (try dsimp only)))
  k_here; k_dflt (refine' Hrd1.of ?hD_z38 ?hh_z38 ?hp_z38 ?F_z38 ?N_z38 ?T0_z38 ?B_z38 ?X_z38 ?T_z38 ?Dd_z38 ?M_z38; (case hD_z38 => with_reducible assumption); (case hh_z38 => k_asm); (case hp_z38 => ((try dsimp only); k_asm)); (case F_z38 => k_asm); (case N_z38 => k_asm); (case T0_z38 => first | k_asm | exact KtsTurn.refl); (case B_z38 => k_asm); (case X_z38 => k_asm); (case T_z38 => k_asm); (case Dd_z38 => k_asm); (case M_z38 => ((try dsimp only); (repeat (first | exact List.forall_mem_nil _ | (refine List.forall_mem_cons.mpr ⟨by k_mem, ?_⟩))))))
  iterate 8 (first | (k_unfold; (try dsimp only)) | walk1 | (dsimp only; walk1) | (leave1; (try dsimp only)))
  k_here; kn_here; (with_reducible show wpAny _ _ (eval (Expr.Lambda _ (Expr.Call (Expr.Name (Str.ofString "binary_value") _) _ _ _) _ _) _) _ _ _); k_dflt (refine' kla_eval ?d0_z39 ?_; (case d0_z39 => exact rfl)); (k_dflt (refine' lam3_make ?F_z39 ?N_z39 ?T_z39 ?cd_z39 ?C_z39 ?S_z39 ?U_z39 ?hk_z39 ?mI_z39 ?hP_z39 ?hH_z39 ?m0_z39 ?m1_z39 ?m2_z39 ?m3_z39 ?m4_z39 ?Kk_z39 ?cl_z39 ?_; (case F_z39 => k_asm); (case N_z39 => k_asm); (case T_z39 => k_asm); (case cd_z39 => exact rfl); (case C_z39 => kn_code); (case S_z39 => k_asm); (case U_z39 => k_updF); (case hk_z39 => k_mem); (case mI_z39 => k_mem); (case hP_z39 => k_asm); (case hH_z39 => k_asm); (case m0_z39 => k_mem); (case m1_z39 => k_mem); (case m2_z39 => k_mem); (case m3_z39 => k_mem); (case m4_z39 => k_mem); (case Kk_z39 => exact ⟨by k_ne, by k_ne, by k_ne, by k_ne, by k_ne, by k_ne⟩); (case cl_z39 => exact rfl); k_whole)); intro f' c' oc' ps' vs' t' ct' h' tk' F' N' d1' d2' hkc hkI l1 l2 hsl; obtain ⟨hkc1, hkc2, hkc3, hkc4, hkc5⟩ := hkc; (try dsimp only at N'); (try k_lt l1); (try k_lt2 l2); (try k_sweep)
  iterate 2 (first | (k_unfold; (try dsimp only)) | walk1 | (dsimp only; walk1) | (leave1; (try dsimp only)))
  k_here; (with_reducible show wpAny _ _ (call (Value.ref 433) _) _ _ _); (fail_if_success (with_reducible rename InH1 => zz)); (fail_if_success (with_reducible rename InH2 => zz)); (k_dflt (refine' cut_heard2 ?hh_z40 ?hD_z40 ?F_z40 ?N_z40 ?B_z40 ?X_z40 ?T_z40 ?Dd_z40 ?T0_z40 ?yb1_z40 ?yb3_z40; (case hh_z40 => k_asm); (case hD_z40 => k_asm); (case F_z40 => k_asm); (case N_z40 => k_asm); (case B_z40 => k_asm); (case X_z40 => k_asm); (case T_z40 => k_asm); (case Dd_z40 => k_asm); (case T0_z40 => k_asm); (case' yb3_z40 => (intro t kg h' tk' kT F' N' B' X' P' D'; (try k_lift B'); (try k_sweep))); (case' yb1_z40 => intro _)))
  k_here; (with_reducible show wpAny _ _ (call (Value.ref 433) _) _ _ _); k_dflt (refine wpAny_call ?_; refine' code_S ?B_z41 ?F_z41 ?X_z41 ?N_z41 ?T_z41 ?XB_z41 ?TB_z41 ?D_z41 ?T0_z41 ?hA_z41 ?hf_z41 ?hke_z41 ?ho_z41 ?hcd_z41 ?hroom_z41 ?hbind_z41 ?hloc_z41 ?_ ?c1_z41 ?c2_z41 ?c3_z41 ?c4_z41; (case hA_z41 => exact rfl); (case hf_z41 => exact rfl); (case hke_z41 => exact rfl); (case F_z41 => k_asm); (case B_z41 => k_asm); (case X_z41 => k_asm); (case N_z41 => k_asm); (case T_z41 => k_asm); (case XB_z41 => k_asm); (case TB_z41 => k_asm); (case D_z41 => k_asm); (case T0_z41 => first | k_asm | exact KtsTurn.refl); (case ho_z41 => k_is); (case hcd_z41 => k_is); (case hroom_z41 => k_room); (case hbind_z41 => exact BindsTo.of_eq rfl); (case hloc_z41 => exact locs rfl); (case c1_z41 => exact rfl); (case c2_z41 => exact rfl); (case c3_z41 => exact rfl); (case c4_z41 => decide); k_whole); intro g' L' h' FG' F' N' B' X' T' D' l1; (try k_lt l1); (try dsimp only); (try k_lift B'); (try k_fold); (try k_sweep)
  iterate 56 (first | (k_unfold; (try dsimp only)) | walk1 | (dsimp only; walk1) | (leave1; (try dsimp only)))
  k_here; (with_reducible show wpAny _ _ (call (Value.ref 254) [Value.ref _]) _ _ _); k_dflt (apply totext_use; iterate 14 tbn_lt); intro t h' tk' F' N'; (try k_sweep)
  iterate 12 (first | (k_unfold; (try dsimp only)) | walk1 | (dsimp only; walk1) | (leave1; (try dsimp only)))
  k_here; (with_reducible show wpAny _ _ (call (Value.ref 261) _) _ _ _); k_dflt (apply tonum_use; iterate 11 tbn_lt); intro t h' tk' F' N'; (try k_sweep)
  iterate 6 (first | (k_unfold; (try dsimp only)) | walk1 | (dsimp only; walk1) | (leave1; (try dsimp only)))
  k_here; (with_reducible show wpAny _ _ (call (Value.ref 364) _) _ _ _); (fail_if_success (with_reducible rename BigF _ _ _ => zz)); (fail_if_success (with_reducible rename SmallF _ _ => zz)); (refine due_cases (by k_asm : DueS _ _ _ _) (fun hD hb hb1 hb2 hb3 => ?_) (fun hD hb hb1 => ?_))
  iterate 15 (first | (k_unfold; (try dsimp only)) | walk1 | (dsimp only; walk1) | (leave1; (try dsimp only)))
  k_here; (with_reducible show wpAny _ _ (compareOp CmpOp.Eq (Value.str (textOf _ _) _) (Value.str (Str.ofString "") _)) _ _ _); (refine eq_empty ?hh_z45 ?_; (case hh_z45 => omega))
  iterate 27 (first | (k_unfold; (try dsimp only)) | walk1 | (dsimp only; walk1) | (leave1; (try dsimp only)))
  k_here; (k_dflt (refine' raise_die ?X_z46 ?hC_z46 ?hb_z46 ?hh_z46 ?_; (case X_z46 => k_asm); (case hC_z46 => k_is); (case hb_z46 => rfl); (case hh_z46 => first | exact rfl | k_asm)))
  iterate 7 (first | (k_unfold; (try dsimp only)) | walk1 | (dsimp only; walk1) | (leave1; (try dsimp only)))
  k_here; (with_reducible show wpAny _ _ (call (Value.ref 51) [Value.str _ _]) _ _ _); k_dflt (apply die_K; iterate 8 tbn_lt); intro e t₁ dx tt h' tk' F' N' hne; (try k_sweep)
  k_here; k_dflt (refine RaiseOk.of (by k_asm) (by k_asm) ?_)
  iterate 1 (first | (k_unfold; (try dsimp only)) | walk1 | (dsimp only; walk1) | (leave1; (try dsimp only)))
  k_here; (with_reducible rename KtsDicts _ _ => kdX); first | (k_dflt (refine' leave_onX ?K_z49 ?F_z49 ?R_z49 ?U_z49 ?_ ?hf_z49; (case R_z49 => k_asm); (case F_z49 => k_asm); (case K_z49 => k_asm); (case U_z49 => k_asm); (case hf_z49 => exact rfl)); intro h' R' U'; (try dsimp only at R' U' ⊢)) | (k_dflt (refine' leave_first ?K_z49 ?F_z49 ?N_z49 ?hne_z49 ?_ ?hf_z49 ?hke_z49; (case N_z49 => k_asm); (case F_z49 => k_asm); (case K_z49 => k_asm); (case hne_z49 => k_asm); (case hf_z49 => exact rfl); (case hke_z49 => exact rfl)); intro h' R' U'; (try dsimp only at R' U' ⊢))
  iterate 1 (first | (k_unfold; (try dsimp only)) | walk1 | (dsimp only; walk1) | (leave1; (try dsimp only)))
  k_here; (with_reducible rename KtsDicts _ _ => kdX); first | (k_dflt (refine' leave_onX ?K_z50 ?F_z50 ?R_z50 ?U_z50 ?_ ?hf_z50; (case R_z50 => k_asm); (case F_z50 => k_asm); (case K_z50 => k_asm); (case U_z50 => k_asm); (case hf_z50 => exact rfl)); intro h' R' U'; (try dsimp only at R' U' ⊢)) | (k_dflt (refine' leave_first ?K_z50 ?F_z50 ?N_z50 ?hne_z50 ?_ ?hf_z50 ?hke_z50; (case N_z50 => k_asm); (case F_z50 => k_asm); (case K_z50 => k_asm); (case hne_z50 => k_asm); (case hf_z50 => exact rfl); (case hke_z50 => exact rfl)); intro h' R' U'; (try dsimp only at R' U' ⊢))
  iterate 1 (first | (k_unfold; (try dsimp only)) | walk1 | (dsimp only; walk1) | (leave1; (try dsimp only)))
  k_here; (with_reducible rename KtsDicts _ _ => kdX); first | (k_dflt (refine' leave_onX ?K_z51 ?F_z51 ?R_z51 ?U_z51 ?_ ?hf_z51; (case R_z51 => k_asm); (case F_z51 => k_asm); (case K_z51 => k_asm); (case U_z51 => k_asm); (case hf_z51 => exact rfl)); intro h' R' U'; (try dsimp only at R' U' ⊢)) | (k_dflt (refine' leave_first ?K_z51 ?F_z51 ?N_z51 ?hne_z51 ?_ ?hf_z51 ?hke_z51; (case N_z51 => k_asm); (case F_z51 => k_asm); (case K_z51 => k_asm); (case hne_z51 => k_asm); (case hf_z51 => exact rfl); (case hke_z51 => exact rfl)); intro h' R' U'; (try dsimp only at R' U' ⊢))
  iterate 6 (first | (k_unfold; (try dsimp only)) | walk1 | (dsimp only; walk1) | (leave1; (try dsimp only)))
  k_here; k_dflt (refine' Hrd2.of ?hD_z52 ?F_z52 ?N_z52 ?T0_z52 ?B_z52 ?X_z52 ?T_z52 ?Dd_z52 ?M_z52; (case hD_z52 => with_reducible assumption); (case F_z52 => k_asm); (case N_z52 => k_asm); (case T0_z52 => first | k_asm | exact KtsTurn.refl); (case B_z52 => k_asm); (case X_z52 => k_asm); (case T_z52 => k_asm); (case Dd_z52 => k_asm); (case M_z52 => ((try dsimp only); (repeat (first | exact List.forall_mem_nil _ | (refine List.forall_mem_cons.mpr ⟨by k_mem, ?_⟩))))))
  k_here; (with_reducible show wpAny _ _ (call (Value.ref 364) _) _ _ _); k_dflt (apply repok_use; iterate 14 tbn_lt); intro t h' tk' F' N'; (try k_sweep)
  iterate 4 (first | (k_unfold; (try dsimp only)) | walk1 | (dsimp only; walk1) | (leave1; (try dsimp only)))
  k_here; k_dflt (refine' Hrd2.of ?hD_z54 ?F_z54 ?N_z54 ?T0_z54 ?B_z54 ?X_z54 ?T_z54 ?Dd_z54 ?M_z54; (case hD_z54 => with_reducible assumption); (case F_z54 => k_asm); (case N_z54 => k_asm); (case T0_z54 => first | k_asm | exact KtsTurn.refl); (case B_z54 => k_asm); (case X_z54 => k_asm); (case T_z54 => k_asm); (case Dd_z54 => k_asm); (case M_z54 => ((try dsimp only); (repeat (first | exact List.forall_mem_nil _ | (refine List.forall_mem_cons.mpr ⟨by k_mem, ?_⟩))))))
  iterate 30 (first | (k_unfold; (try dsimp only)) | walk1 | (dsimp only; walk1) | (leave1; (try dsimp only)))
  k_here; (with_reducible show wpAny _ _ (compareOp CmpOp.Eq _ (Value.str (Str.ofString "another one") _)) _ _ _); k_dflt (refine' eq_heldT ?hh_z55 ?hb_z55 ?_; (case hh_z55 => k_asm); (case hb_z55 => with_reducible assumption); k_whole)
  iterate 1 (first | (k_unfold; (try dsimp only)) | walk1 | (dsimp only; walk1) | (leave1; (try dsimp only)))
  (rename Fr _ _ _ _ => zF; rename News _ _ _ _ => zN; rename SL _ _ _ _ _ _ _ _ _ _ => zS; (try dsimp only at zF zN); (refine' hret _ _ _ _ _ _ _ _ _ _ _ _ _ _ zF ?N_c1 ?n1_c1 ?n2_c1 ?n3_c1 ?n4_c1 ?n5_c1 ?n6_c1 ?n7_c1 ?n8_c1 ?n9_c1 ?n10_c1 ?n11_c1 ?n12_c1 ?n13_c1 ?n14_c1 ?n15_c1 ?S_c1 ?d1_c1 ?d2_c1; (case S_c1 => exact zS); (case d1_c1 => with_reducible assumption); (case d2_c1 => with_reducible assumption); (case n1_c1 => with_reducible assumption); (case n2_c1 => with_reducible assumption); (case n3_c1 => with_reducible assumption); (case n4_c1 => with_reducible assumption); (case n5_c1 => with_reducible assumption); (case n6_c1 => with_reducible assumption); (case n7_c1 => with_reducible assumption); (case n8_c1 => with_reducible assumption); (case n9_c1 => with_reducible assumption); (case n10_c1 => with_reducible assumption); (case n11_c1 => with_reducible assumption); (case n12_c1 => with_reducible assumption); (case n13_c1 => with_reducible assumption); (case n14_c1 => with_reducible assumption); (case n15_c1 => with_reducible assumption); (case N_c1 => (refine news_of zN ?_; repeat (first | exact List.forall_mem_nil _ | (refine List.forall_mem_cons.mpr ⟨by k_mem, ?_⟩))))))
  iterate 1 (first | (k_unfold; (try dsimp only)) | walk1 | (dsimp only; walk1) | (leave1; (try dsimp only)))
  k_here; (with_reducible show wpAny _ _ (compareOp CmpOp.Eq _ (Value.ref _)) _ _ _); k_dflt (refine' eq_heldF ?hh_z56 ?hb_z56 ?X_z56 ?F_z56 ?N_z56 ?mm_z56 ?hc_z56 ?ho_z56 ?hm_z56 ?hs_z56 ?hdel_z56 ?hns_z56 ?hes_z56 ?he_z56 ?hn_z56 ?hu_z56 ?_; (case hh_z56 => k_asm); (case hb_z56 => with_reducible assumption); (case X_z56 => k_asm); (case F_z56 => k_asm); (case N_z56 => k_asm); (case mm_z56 => k_mem); (case hc_z56 => exact rfl); (case ho_z56 => k_is); (case hm_z56 => exact rfl); (case hs_z56 => exact rfl); (case hdel_z56 => exact rfl); (case hns_z56 => k_is); (case hes_z56 => exact rfl); (case he_z56 => k_is); (case hn_z56 => k_is); (case hu_z56 => ktr_units); k_whole)
  iterate 1 (first | (k_unfold; (try dsimp only)) | walk1 | (dsimp only; walk1) | (leave1; (try dsimp only)))
  (rename Fr _ _ _ _ => zF; rename News _ _ _ _ => zN; rename SL _ _ _ _ _ _ _ _ _ _ => zS; (try dsimp only at zF zN); (refine' hret _ _ _ _ _ _ _ _ _ _ _ _ _ _ zF ?N_c2 ?n1_c2 ?n2_c2 ?n3_c2 ?n4_c2 ?n5_c2 ?n6_c2 ?n7_c2 ?n8_c2 ?n9_c2 ?n10_c2 ?n11_c2 ?n12_c2 ?n13_c2 ?n14_c2 ?n15_c2 ?S_c2 ?d1_c2 ?d2_c2; (case S_c2 => exact zS); (case d1_c2 => with_reducible assumption); (case d2_c2 => with_reducible assumption); (case n1_c2 => with_reducible assumption); (case n2_c2 => with_reducible assumption); (case n3_c2 => with_reducible assumption); (case n4_c2 => with_reducible assumption); (case n5_c2 => with_reducible assumption); (case n6_c2 => with_reducible assumption); (case n7_c2 => with_reducible assumption); (case n8_c2 => with_reducible assumption); (case n9_c2 => with_reducible assumption); (case n10_c2 => with_reducible assumption); (case n11_c2 => with_reducible assumption); (case n12_c2 => with_reducible assumption); (case n13_c2 => with_reducible assumption); (case n14_c2 => with_reducible assumption); (case n15_c2 => with_reducible assumption); (case N_c2 => (refine news_of zN ?_; repeat (first | exact List.forall_mem_nil _ | (refine List.forall_mem_cons.mpr ⟨by k_mem, ?_⟩))))))
end Mine
end
section
open PySem PySem.W PySem.Spec PySem.Calls PyProof.Rows PyProof.V
namespace Mine
theorem law_holds.tw357486453476387696 : True := trivial
theorem law_holds.tw8441880690091102137 : True := trivial
theorem law_holds.tw1099259369241382048 : True := trivial
theorem law_holds.tw11463670642173560981 : True := trivial
theorem law_holds.tw1341266762083198811 : True := trivial
theorem law_holds.tw11803358882649189518 : True := trivial
theorem law_holds.tw15191720212996534143 : True := trivial
theorem law_holds.tw881140697980615281 : True := trivial
theorem law_holds.tw1258919526383655059 : True := trivial
theorem law_holds.tw14447809873574782654 : True := trivial
theorem law_holds.tw17899081815984039989 : True := trivial
theorem law_holds.tw8634839017697508684 : True := trivial
theorem law_holds.tw14497384708736915567 : True := trivial
theorem law_holds.tw15732109348078318572 : True := trivial
theorem law_holds.tw14051398506283589457 : True := trivial
theorem law_holds.tw16947615914383616782 : True := trivial
theorem law_holds.tw3927331946688356228 : True := trivial
theorem law_holds.tw3912811242725288453 : True := trivial
theorem law_holds.tw3046938939346580660 : True := trivial
theorem law_holds.tw15472126771306010800 : True := trivial
theorem law_holds.tw11625900857008200698 : True := trivial
theorem law_holds.tw2139172203440323022 : True := trivial
theorem law_holds.tw14498155544194170393 : True := trivial
theorem law_holds.tw3103368861341482366 : True := trivial
theorem law_holds.tw14774650325386425613 : True := trivial
theorem law_holds.tw1172607208729018732 : True := trivial
theorem law_holds.tw14892801356780361778 : True := trivial
theorem law_holds.tw1819975233463548508 : True := trivial
theorem law_holds.tw4515466672771955728 : True := trivial
theorem law_holds.tw6869992995446874880 : True := trivial
theorem law_holds.tw3329330481660614911 : True := trivial
theorem law_holds.tw7404543985812422374 : True := trivial
theorem law_holds.tw17345407343664743607 : True := trivial
theorem law_holds.tw5212653520564569363 : True := trivial
theorem law_holds.tw1622690429015379626 : True := trivial
theorem law_holds.tw15150646450996357022 : True := trivial
theorem law_holds.tw10983241140555628109 : True := trivial
theorem law_holds.tw5950301352895977177 : True := trivial
theorem law_holds.tw2644310842459337959 : True := trivial
theorem law_holds.tw3808703085821546077 : True := trivial
theorem law_holds.tw17294896719344410045 : True := trivial
theorem law_holds.tw4030767218360268280 : True := trivial
theorem law_holds.tw10264638600885302300 : True := trivial
theorem law_holds.tw8570087061310353148 : True := trivial
theorem law_holds.tw10108825076125807744 : True := trivial
theorem law_holds.tw8285764192309689115 : True := trivial
theorem law_holds.tw2143268655074302082 : True := trivial
theorem law_holds.tw10125039539917201100 : True := trivial
theorem law_holds.tw13983371404066579822 : True := trivial
theorem law_holds.tw7589297994852775868 : True := trivial
theorem law_holds.tw5914491427308094424 : True := trivial
theorem law_holds.tw2856731137302751260 : True := trivial
theorem law_holds.tw10958410103948607464 : True := trivial
theorem law_holds.tw17028624522117568015 : True := trivial
theorem law_holds.tw12835091436910803158 : True := trivial
theorem law_holds.tw13250372474279835810 : True := trivial
theorem law_holds.tw16805829885119392726 : True := trivial
theorem law_holds.tw8785698371604719795 : True := trivial
theorem law_holds.tw908389787484368193 : True := trivial
theorem law_holds.tw5731563423909890137 : True := trivial
theorem law_holds.tw8312341600987523519 : True := trivial
theorem law_holds.tw13028658284911697911 : True := trivial
theorem law_holds.tw14789792462180790578 : True := trivial
theorem law_holds.tw5640673133297012132 : True := trivial
theorem law_holds.tw12684681026606017882 : True := trivial
theorem law_holds.tw5037970770195530229 : True := trivial
theorem law_holds.tw3974387499553966400 : True := trivial
theorem law_holds.tw14385925486924208373 : True := trivial
theorem law_holds.tw12419048959643632839 : True := trivial
theorem law_holds.tw18340598423539479173 : True := trivial
theorem law_holds.tw3186734533307500241 : True := trivial
theorem law_holds.tw8040771413219435098 : True := trivial
theorem law_holds.tw2322801206320994539 : True := trivial
theorem law_holds.tw16978406815995349258 : True := trivial
theorem law_holds.tw16009327648451700120 : True := trivial
theorem law_holds.tw17499823404086765753 : True := trivial
theorem law_holds.tw10486713781251687710 : True := trivial
theorem law_holds.tw12977093529070104392 : True := trivial
theorem law_holds.tw6265907326580845545 : True := trivial
theorem law_holds.tw10465528174321978529 : True := trivial
theorem law_holds.tw1767730674963353768 : True := trivial
theorem law_holds.tw4889031023730116350 : True := trivial
theorem law_holds.tw5455921660152230842 : True := trivial
theorem law_holds.tw1989176631692091739 : True := trivial
theorem law_holds.tw12831907817818079685 : True := trivial
theorem law_holds.tw17713402740875732926 : True := trivial
theorem law_holds.tw15802469936163623734 : True := trivial
theorem law_holds.tw15544829507116839252 : True := trivial
theorem law_holds.tw4464252984393422682 : True := trivial
theorem law_holds.tw6667284449218939238 : True := trivial
theorem law_holds.tw850272041215511910 : True := trivial
theorem law_holds.tw2695550118857162214 : True := trivial
theorem law_holds.tw6881874429007886204 : True := trivial
theorem law_holds.tw2124134355350193313 : True := trivial
theorem law_holds.tw11946022803392826334 : True := trivial
theorem law_holds.tw1928719863018725356 : True := trivial
theorem law_holds.tw3682559726232862161 : True := trivial
theorem law_holds.tw6072504415942766929 : True := trivial
theorem law_holds.tw10027879121665395642 : True := trivial
theorem law_holds.tw13766487248619392586 : True := trivial
theorem law_holds.tw3158129796062787159 : True := trivial
theorem law_holds.tw8715444014776630742 : True := trivial
theorem law_holds.tw10350734228115807855 : True := trivial
theorem law_holds.tw9069877914133315304 : True := trivial
theorem law_holds.tw9843604407834444796 : True := trivial
theorem law_holds.tw16332274672890094952 : True := trivial
theorem law_holds.tw9889521400790421688 : True := trivial
theorem law_holds.tw8481075993509181622 : True := trivial
theorem law_holds.tw13190703287169160282 : True := trivial
theorem law_holds.tw5045712524691215523 : True := trivial
theorem law_holds.tw1377309892636839040 : True := trivial
theorem law_holds.tw18261290160731607033 : True := trivial
theorem law_holds.tw2006301483956418059 : True := trivial
theorem law_holds.tw7406279271513709847 : True := trivial
theorem law_holds.tw16098122237329998606 : True := trivial
theorem law_holds.tw13956741780833797525 : True := trivial
theorem law_holds.tw14983226153234331074 : True := trivial
theorem law_holds.tw9184033795430018204 : True := trivial
theorem law_holds.tw4370086069003782432 : True := trivial
theorem law_holds.tw1778412455037948541 : True := trivial
theorem law_holds.tw2643271747718453845 : True := trivial
theorem law_holds.tw18430954121086234272 : True := trivial
theorem law_holds.tw3910120701321347557 : True := trivial
theorem law_holds.tw1414043511812021011 : True := trivial
theorem law_holds.tw3494445600050047599 : True := trivial
theorem law_holds.tw18254337876149969668 : True := trivial
theorem law_holds.tw11133525997344109421 : True := trivial
theorem law_holds.tw6723812968561706957 : True := trivial
theorem law_holds.tw7408472829698581751 : True := trivial
theorem law_holds.tw16461882675039125421 : True := trivial
theorem law_holds.tw6727219029552735585 : True := trivial
theorem law_holds.tw4441770287765753910 : True := trivial
theorem law_holds.tw15293083901398250104 : True := trivial
theorem law_holds.tw12115171985352901274 : True := trivial
theorem law_holds.tw12687621791434340054 : True := trivial
theorem law_holds.tw10188763426450519768 : True := trivial
theorem law_holds.tw15883345262158282383 : True := trivial
theorem law_holds.tw2078624436916829710 : True := trivial
theorem law_holds.tw10516828495840041881 : True := trivial
theorem law_holds.tw13280740594461564331 : True := trivial
theorem law_holds.tw14224323468409063320 : True := trivial
theorem law_holds.tw12780804625047726367 : True := trivial
theorem law_holds.tw2557128651999224082 : True := trivial
theorem law_holds.tw15617896438947887921 : True := trivial
theorem law_holds.tw14390095281932903014 : True := trivial
theorem law_holds.tw10368410895845634921 : True := trivial
theorem law_holds.tw9682718004065560343 : True := trivial
theorem law_holds.tw18388893480867403737 : True := trivial
theorem law_holds.tw2558664710541493025 : True := trivial
theorem law_holds.tw17274716441693411508 : True := trivial
theorem law_holds.tw16462895619179043833 : True := trivial
theorem law_holds.tw10726639523019406850 : True := trivial
theorem law_holds.tw3850404396616230974 : True := trivial
theorem law_holds.tw4581845663705801772 : True := trivial
theorem law_holds.tw9992725586745946429 : True := trivial
theorem law_holds.tw1762888911704233025 : True := trivial
theorem law_holds.tw2503670479209048990 : True := trivial
theorem law_holds.tw6507877686720480950 : True := trivial
theorem law_holds.tw17470365217354309832 : True := trivial
theorem law_holds.tw926570990666696690 : True := trivial
theorem law_holds.tw519298541982818421 : True := trivial
theorem law_holds.tw15014403891855920072 : True := trivial
theorem law_holds.tw784011647948385275 : True := trivial
theorem law_holds.tw7769649832755249146 : True := trivial
theorem law_holds.tw9255152265573255198 : True := trivial
theorem law_holds.tw18234560199702728603 : True := trivial
theorem law_holds.tw12134408205421670959 : True := trivial
theorem law_holds.tw6553333263825352884 : True := trivial
theorem law_holds.tw123295346585929383 : True := trivial
theorem law_holds.tw545679637281252710 : True := trivial
theorem law_holds.tw8984712037535005518 : True := trivial
theorem law_holds.tw10295967763152902139 : True := trivial
theorem law_holds.tw13709617746848070560 : True := trivial
theorem law_holds.tw1670043908289496885 : True := trivial
theorem law_holds.tw2387193687640843687 : True := trivial
theorem law_holds.tw7696488724909661519 : True := trivial
theorem law_holds.tw5769158387606399586 : True := trivial
theorem law_holds.tw41732636909640268 : True := trivial
theorem law_holds.tw5112083995522966620 : True := trivial
theorem law_holds.tw2175471002772951711 : True := trivial
theorem law_holds.tw10362271348294423435 : True := trivial
theorem law_holds.tw5907203647135998699 : True := trivial
theorem law_holds.tw1905533677188600702 : True := trivial
theorem law_holds.tw1315470402360947651 : True := trivial
theorem law_holds.tw4995542688137877417 : True := trivial
theorem law_holds.tw6861490101519172755 : True := trivial
theorem law_holds.tw1973129929022764952 : True := trivial
theorem law_holds.tw8553002610548859549 : True := trivial
theorem law_holds.tw11881114122080957857 : True := trivial
theorem law_holds.tw16873799427995575018 : True := trivial
theorem law_holds.tw3756308257209627903 : True := trivial
theorem law_holds.tw14822640431511872941 : True := trivial
theorem law_holds.tw8970147916757833333 : True := trivial
theorem law_holds.tw6776455111828631412 : True := trivial
theorem law_holds.tw15527639110640922598 : True := trivial
theorem law_holds.tw11182679623053108816 : True := trivial
theorem law_holds.tw7407239408455114201 : True := trivial
theorem law_holds.tw12626328134170644701 : True := trivial
theorem law_holds.tw1689763614830377041 : True := trivial
theorem law_holds.tw11544315989524547432 : True := trivial
theorem law_holds.tw1035469204868569938 : True := trivial
theorem law_holds.tw14883556706271630602 : True := trivial
theorem law_holds.tw11185980776385928813 : True := trivial
theorem law_holds.tw10609929442622069884 : True := trivial
theorem law_holds.tw1784627337472249616 : True := trivial
theorem law_holds.tw5858263632927829637 : True := trivial
theorem law_holds.tw14988988175077273356 : True := trivial
theorem law_holds.tw11781800970755023335 : True := trivial
theorem law_holds.tw5117662029339320154 : True := trivial
theorem law_holds.tw17180001009569633970 : True := trivial
theorem law_holds.tw15923723764856563912 : True := trivial
theorem law_holds.tw2578278018795888234 : True := trivial
theorem law_holds.tw1783637502058952532 : True := trivial
theorem law_holds.tw3049941959672503198 : True := trivial
theorem law_holds.tw5506821171919863439 : True := trivial
theorem law_holds.tw5274592661964301406 : True := trivial
theorem law_holds.tw12303009252429188658 : True := trivial
theorem law_holds.tw4524032621918665186 : True := trivial
theorem law_holds.tw8386679336120195906 : True := trivial
theorem law_holds.tw6159533029260741167 : True := trivial
theorem law_holds.tw15352839923633478061 : True := trivial
theorem law_holds.tw10876394233666535175 : True := trivial
theorem law_holds.tw10222300733896627045 : True := trivial
theorem law_holds.tw1724926542741425601 : True := trivial
theorem law_holds.tw11764581739189218997 : True := trivial
theorem law_holds.tw545109181885906688 : True := trivial
theorem law_holds.tw11966672015165255308 : True := trivial
theorem law_holds.tw2907507879108658156 : True := trivial
theorem law_holds.tw14326059299131336239 : True := trivial
theorem law_holds.tw6911747868599837429 : True := trivial
theorem law_holds.tw18051328159682125866 : True := trivial
theorem law_holds.tw6860709855171689206 : True := trivial
theorem law_holds.tw575232530192455986 : True := trivial
theorem law_holds.tw3253568177066640346 : True := trivial
theorem law_holds.tw13281950902743806629 : True := trivial
theorem law_holds.tw9207643191828677137 : True := trivial
theorem law_holds.tw2075624079617657780 : True := trivial
theorem law_holds.tw7566432030715092817 : True := trivial
theorem law_holds.tw11126432536435168541 : True := trivial
theorem law_holds.tw179590077315354965 : True := trivial
theorem law_holds.tw11223184984439025696 : True := trivial
theorem law_holds.tw6063420548680360473 : True := trivial
theorem law_holds.tw2136269947727277649 : True := trivial
theorem law_holds.tw8854015012368427407 : True := trivial
theorem law_holds.tw3035144380315620824 : True := trivial
theorem law_holds.tw8369274380968253667 : True := trivial
theorem law_holds.tw7408322871517469003 : True := trivial
theorem law_holds.tw3959601488294255719 : True := trivial
theorem law_holds.tw17255088995462705879 : True := trivial
theorem law_holds.tw2090888555730037645 : True := trivial
theorem law_holds.tw8666519363043736892 : True := trivial
theorem law_holds.tw745255978533919091 : True := trivial
theorem law_holds.tw10242277825702978295 : True := trivial
theorem law_holds.tw5989267464594152519 : True := trivial
theorem law_holds.tw13190408463805328480 : True := trivial
theorem law_holds.tw3426384778480675251 : True := trivial
theorem law_holds.tw3307954989432871184 : True := trivial
theorem law_holds.tw8514742172934523775 : True := trivial
theorem law_holds.tw13431030151845061361 : True := trivial
theorem law_holds.tw14545874151571354728 : True := trivial
theorem law_holds.tw3033269912633744064 : True := trivial
theorem law_holds.tw12135361065603115203 : True := trivial
theorem law_holds.tw13650905803964671038 : True := trivial
theorem law_holds.tw602461330855297101 : True := trivial
theorem law_holds.tw16470317323979864763 : True := trivial
theorem law_holds.tw11426015686315989412 : True := trivial
theorem law_holds.tw955754561232635357 : True := trivial
theorem law_holds.tw4614512636035447770 : True := trivial
theorem law_holds.tw11677100312832694166 : True := trivial
theorem law_holds.tw17942709131360195518 : True := trivial
theorem law_holds.tw5920216800500632969 : True := trivial
theorem law_holds.tw3896150654470677357 : True := trivial
theorem law_holds.tw7019463264422422977 : True := trivial
theorem law_holds.tw12622292602297523153 : True := trivial
theorem law_holds.tw4198951923066960807 : True := trivial
theorem law_holds.tw15726739188670627701 : True := trivial
theorem law_holds.tw13397297893571687751 : True := trivial
theorem law_holds.tw8857742495270377987 : True := trivial
theorem law_holds.tw12149405283708829123 : True := trivial
theorem law_holds.tw3005452535816212104 : True := trivial
theorem law_holds.tw10442559174759676424 : True := trivial
theorem law_holds.tw15607887362523206001 : True := trivial
theorem law_holds.tw17253691774821329096 : True := trivial
theorem law_holds.tw475440987782486900 : True := trivial
theorem law_holds.tw8417186165934385351 : True := trivial
theorem law_holds.tw16760957895259694429 : True := trivial
theorem law_holds.tw16190678330180157336 : True := trivial
theorem law_holds.tw9779807473162285230 : True := trivial
theorem law_holds.tw4916342969005030805 : True := trivial
theorem law_holds.tw3882201998751590657 : True := trivial
theorem law_holds.tw3136910860242942599 : True := trivial
theorem law_holds.tw17590937770903843232 : True := trivial
theorem law_holds.tw9552830710289189752 : True := trivial
theorem law_holds.tw16099233806120587224 : True := trivial
theorem law_holds.tw3850334171643177529 : True := trivial
theorem law_holds.tw2102315897755806987 : True := trivial
theorem law_holds.tw1285599515219305098 : True := trivial
theorem law_holds.tw4818577856007422655 : True := trivial
theorem law_holds.tw3742325753681652743 : True := trivial
theorem law_holds.tw1550374771381668074 : True := trivial
theorem law_holds.tw14828999820898988419 : True := trivial
theorem law_holds.tw4037582482628031876 : True := trivial
theorem law_holds.tw676263390381983339 : True := trivial
theorem law_holds.tw5364902710198789758 : True := trivial
theorem law_holds.tw10093380194815717143 : True := trivial
theorem law_holds.tw5981114437932730796 : True := trivial
theorem law_holds.tw12223724995276690173 : True := trivial
theorem law_holds.tw4633799680528563822 : True := trivial
theorem law_holds.tw8790382262760724670 : True := trivial
theorem law_holds.tw3756957479349018193 : True := trivial
theorem law_holds.tw4992725456586698614 : True := trivial
theorem law_holds.tw631266038723830076 : True := trivial
theorem law_holds.tw9013377322688217293 : True := trivial
theorem law_holds.tw7185456241796803578 : True := trivial
theorem law_holds.tw1710076424337546998 : True := trivial
theorem law_holds.tw3234938669768167354 : True := trivial
theorem law_holds.tw724200737284857819 : True := trivial
theorem law_holds.tw14596297492920191028 : True := trivial
theorem law_holds.tw14354538779393863138 : True := trivial
theorem law_holds.tw907578622648922086 : True := trivial
theorem law_holds.tw1335265377702380343 : True := trivial
theorem law_holds.tw59864651932915081 : True := trivial
theorem law_holds.tw8984152853971343422 : True := trivial
theorem law_holds.tw17865009358878524859 : True := trivial
theorem law_holds.tw14377833709258309704 : True := trivial
theorem law_holds.tw16720094985154256693 : True := trivial
theorem law_holds.tw12342728606916771844 : True := trivial
theorem law_holds.tw9288214680346807717 : True := trivial
theorem law_holds.tw1685627985566243432 : True := trivial
theorem law_holds.tw3955097671198598788 : True := trivial
theorem law_holds.tw1385162719727133579 : True := trivial
theorem law_holds.tw7504726725593181219 : True := trivial
theorem law_holds.tw7495221243884187115 : True := trivial
theorem law_holds.tw8652346329174877282 : True := trivial
theorem law_holds.tw13882729330811710610 : True := trivial
theorem law_holds.tw2152083551845799040 : True := trivial
theorem law_holds.tw17237755526102222789 : True := trivial
theorem law_holds.tw17993387198741990920 : True := trivial
theorem law_holds.tw447027507633508388 : True := trivial
theorem law_holds.tw14991590004735058009 : True := trivial
theorem law_holds.tw7820799176418779761 : True := trivial
theorem law_holds.tw13536078969547264968 : True := trivial
theorem law_holds.tw10841264019214440115 : True := trivial
theorem law_holds.tw15829985883664642994 : True := trivial
theorem law_holds.tw14531881819706719225 : True := trivial
theorem law_holds.tw13182730311906835528 : True := trivial
theorem law_holds.tw11977050620070087417 : True := trivial
theorem law_holds.tw5179800943232649660 : True := trivial
theorem law_holds.tw8266603773606604290 : True := trivial
theorem law_holds.tw2842810181116790245 : True := trivial
theorem law_holds.tw8806649888931605024 : True := trivial
theorem law_holds.tw6260460797876433568 : True := trivial
theorem law_holds.tw11690447701083486646 : True := trivial
theorem law_holds.tw6709271908398517637 : True := trivial
theorem law_holds.tw16836969012518115619 : True := trivial
theorem law_holds.tw11097158420108258118 : True := trivial
theorem law_holds.tw17911580528928914924 : True := trivial
theorem law_holds.tw14571795756577361901 : True := trivial
theorem law_holds.tw12645607732203181651 : True := trivial
theorem law_holds.tw7472407996622490835 : True := trivial
theorem law_holds.tw15661869461025623997 : True := trivial
theorem law_holds.tw11609493526922420660 : True := trivial
theorem law_holds.tw10007947361888340627 : True := trivial
theorem law_holds.tw12476058986133298565 : True := trivial
theorem law_holds.tw718173064312146323 : True := trivial
theorem law_holds.tw8249079356659094474 : True := trivial
theorem law_holds.tw16893121556090616931 : True := trivial
theorem law_holds.tw4146061822495498468 : True := trivial
theorem law_holds.tw11289095316329951393 : True := trivial
theorem law_holds.tw7356724547972884604 : True := trivial
theorem law_holds.tw15609566024721092083 : True := trivial
theorem law_holds.tw14646867148444618371 : True := trivial
theorem law_holds.tw18203989763732354715 : True := trivial
theorem law_holds.tw10817052189556005596 : True := trivial
theorem law_holds.tw13220211186989608806 : True := trivial
theorem law_holds.tw16406091861079842607 : True := trivial
theorem law_holds.tw18090433342136740992 : True := trivial
theorem law_holds.tw548770620660146353 : True := trivial
theorem law_holds.tw4273555757443719353 : True := trivial
theorem law_holds.tw6499956759230125245 : True := trivial
theorem law_holds.tw16563099163409725306 : True := trivial
theorem law_holds.tw8890443458166856008 : True := trivial
theorem law_holds.tw12732824653754844360 : True := trivial
theorem law_holds.tw16883458599210261866 : True := trivial
theorem law_holds.tw14160533322030094474 : True := trivial
theorem law_holds.tw8176227357466254829 : True := trivial
theorem law_holds.tw3943428198234077543 : True := trivial
theorem law_holds.tw1909877003179415225 : True := trivial
theorem law_holds.tw455179833554555240 : True := trivial
theorem law_holds.tw11470271118054631628 : True := trivial
theorem law_holds.tw7311554392007033315 : True := trivial
theorem law_holds.tw9875236377963488844 : True := trivial
theorem law_holds.tw15272395603832836080 : True := trivial
theorem law_holds.tw6894629897728501357 : True := trivial
theorem law_holds.tw13800757232730249582 : True := trivial
theorem law_holds.tw14925382992726071281 : True := trivial
theorem law_holds.tw2043166853727251185 : True := trivial
theorem law_holds.tw4072507727158212662 : True := trivial
theorem law_holds.tw16614716721108272449 : True := trivial
theorem law_holds.tw6553096921515853463 : True := trivial
theorem law_holds.tw4781243967656130014 : True := trivial
theorem law_holds.tw6564709946809587534 : True := trivial
theorem law_holds.tw7089819591129360890 : True := trivial
theorem law_holds.tw1791086108937442324 : True := trivial
theorem law_holds.tw9131877904366575398 : True := trivial
theorem law_holds.tw15154110283740273250 : True := trivial
theorem law_holds.tw699380112222796084 : True := trivial
theorem law_holds.tw7910590604623066228 : True := trivial
theorem law_holds.tw9606376775287448836 : True := trivial
theorem law_holds.tw8472228645029834797 : True := trivial
theorem law_holds.tw4008084134468147086 : True := trivial
theorem law_holds.tw8860054118572591635 : True := trivial
theorem law_holds.tw13392613628428298086 : True := trivial
theorem law_holds.tw14997073306097389879 : True := trivial
theorem law_holds.tw18006792725990754497 : True := trivial
theorem law_holds.tw17598101756349436640 : True := trivial
theorem law_holds.tw3595789414353437717 : True := trivial
theorem law_holds.tw6674817763981286723 : True := trivial
theorem law_holds.tw11097350217990362986 : True := trivial
theorem law_holds.tw16935243356766158856 : True := trivial
theorem law_holds.tw15452448965706171373 : True := trivial
theorem law_holds.tw2055734563569237896 : True := trivial
theorem law_holds.tw14335913921861858828 : True := trivial
theorem law_holds.tw13478230802861573701 : True := trivial
theorem law_holds.tw5728293988275032746 : True := trivial
theorem law_holds.tw2446358144275080391 : True := trivial
theorem law_holds.tw12394330538082041428 : True := trivial
theorem law_holds.tw8835965917227929528 : True := trivial
theorem law_holds.tw12291295341487003417 : True := trivial
theorem law_holds.tw445335354869643106 : True := trivial
theorem law_holds.tw1496123403401453975 : True := trivial
theorem law_holds.tw15140378357190847165 : True := trivial
theorem law_holds.tw8763168800255643514 : True := trivial
theorem law_holds.tw3028213030429885723 : True := trivial
theorem law_holds.tw3437919841840417490 : True := trivial
theorem law_holds.tw6677821561840896501 : True := trivial
theorem law_holds.tw12459966957829302596 : True := trivial
theorem law_holds.tw6934448944433832347 : True := trivial
theorem law_holds.tw653560878884961445 : True := trivial
theorem law_holds.tw17027635718292003107 : True := trivial

set_option Elab.async true in
theorem law_holds : PySem.Challenge.rw_qz0094_01.Holds := by
  w_on
  o_law
  o_head (kmHook hd.heap_1 [2, 3, 15, 22, 24, 25, 27, 28, 29, 30, 31, 32, 35, 42, 44, 45, 47, 48, 49, 50, 51, 54, 56, 57, 59, 60, 61, 63, 64, 66, 67, 68, 70, 71, 73, 74, 75, 77, 78, 80, 81, 89, 91, 92, 94, 95, 96, 97, 98, 99, 100, 103, 110, 112, 113, 115, 116, 117, 118, 119, 122, 129, 131, 132, 134, 135, 136, 137, 138, 141, 148, 150, 151, 153, 154, 155, 156, 157, 160, 167, 169, 170, 172, 173, 174, 175, 176, 179, 186, 188, 189, 191, 192, 193, 194, 195, 205, 206, 208, 209, 211, 212, 213, 214, 215, 216, 217, 220, 222, 223, 225, 226, 227, 229, 230, 232, 233, 234, 236, 237, 239, 240, 241, 243, 244, 246, 247, 248, 250, 251, 253, 254, 255, 257, 258, 260, 261, 262, 264, 265, 267, 268, 269, 271, 272, 274, 275, 276, 278, 279, 281, 282, 283, 285, 286, 288, 289, 290, 292, 293, 295, 296, 297, 299, 300, 302, 303, 311, 313, 314, 316, 317, 318, 319, 320, 321, 322, 325, 327, 328, 330, 331, 332, 334, 335, 337, 338, 339, 341, 342, 344, 345, 346, 348, 349, 351, 352, 353, 356, 357, 358, 360, 361, 363, 364, 365, 367, 368, 370, 371, 372, 374, 375, 377, 378, 379, 382, 383, 391, 392, 394, 395, 397, 398, 399, 400, 401, 402, 403, 406, 408, 409, 411, 412, 413, 415, 416, 418, 419, 420, 422, 423, 425, 426, 427, 429, 430, 432, 433, 434, 436, 437, 439, 440, 441, 443, 444, 446, 447] (fun _ => by kernel_rfl) [435])
  case hw => w_witness2
  k_go0
  (all_goals try k_fold)
  iterate 38 (first | (k_unfold; (try dsimp only)) | walk1 | (dsimp only; walk1) | (leave1; (try dsimp only)))
  k_here; (with_reducible show wpAny _ _ (call (Value.ref 401) _ _) _ _ _); k_dflt (refine' lims_K ?l_F_z57 ?l_N_z57 ?l_B_z57 ?l_X_z57 ?l_T_z57 ?l_hk_z57 ?l_hdp_z57 ?l_hun_z57 ?l_kw_z57 ?_; (case l_F_z57 => k_asm); (case l_N_z57 => k_asm); (case l_B_z57 => k_asm); (case l_X_z57 => k_asm); (case l_T_z57 => k_asm); (case l_hk_z57 => exact rfl); (case l_hdp_z57 => ktr_room); (case l_hun_z57 => ktr_units); (case l_kw_z57 => exact rfl)); intro x d b1 b2 b3 b4 b5 c1 c2 c3 c4 c5 h' tk' F' N' l1 l2; (try k_lt l1); (try k_lt2 l2); (try k_sweep)
  iterate 2 (first | (k_unfold; (try dsimp only)) | walk1 | (dsimp only; walk1) | (leave1; (try dsimp only)))
  k_here; (with_reducible show wpAny _ _ (call (Value.ref 320) [Value.none, Value.none, Value.none, Value.ref _]) _ _ _); k_dflt (refine' run_K ?u_F_z58 ?u_N_z58 ?u_B_z58 ?u_X_z58 ?u_T_z58 ?u_hk_z58 ?u_hdp_z58 ?u_hun_z58 ?_; (case u_F_z58 => k_asm); (case u_N_z58 => k_asm); (case u_B_z58 => k_asm); (case u_X_z58 => k_asm); (case u_T_z58 => k_asm); (case u_hk_z58 => exact rfl); (case u_hdp_z58 => ktr_room); (case u_hun_z58 => ktr_units)); intro x d ra d5 rd h' tk' F' N' l1 l2; (try k_lt l1); (try k_lt2 l2); (try k_sweep)
  iterate 28 (first | (k_unfold; (try dsimp only)) | walk1 | (dsimp only; walk1) | (leave1; (try dsimp only)))
  k_here; (with_reducible show wpAny _ _ (call (Value.ref 419) [Value.ref _, Value.int 5 _]) _ _ _); (k_dflt (refine' dip_use ?F_z59 ?N_z59 ?B_z59 ?X_z59 ?T_z59 ?U_z59 ?hd_z59 ?hI_z59 ?hm_z59 ?hlp_z59 ?hk_z59 ?lo_z59 ?hlen_z59 ?h0_z59 ?h1_z59 ?hm1_z59 ?hm2_z59 ?hdp_z59 ?hun_z59 ?_; (case F_z59 => k_asm); (case N_z59 => k_asm); (case B_z59 => k_asm); (case X_z59 => k_asm); (case T_z59 => k_asm); (case U_z59 => k_updF); (case hd_z59 => exact (by with_reducible assumption : Obj.IsDictOf (PySem.strKind _ _) _ (strPairs [(Value.str (Str.ofString "script") _, Value.ref _), (Value.str (Str.ofString "at") _, Value.int 0 _)]))); (case hI_z59 => k_asm); (case hm_z59 => k_mem); (case hlp_z59 => k_ne); (case hk_z59 => exact rfl); (case lo_z59 => k_asm); (case hdp_z59 => ktr_room); (case hun_z59 => ktr_units); any_goals omega)); intro v o' t t3' h' tk' hv0 hv1 F' N' hd'; (try dsimp only at N'); (try k_sweep)
  iterate 2 (first | (k_unfold; (try dsimp only)) | walk1 | (dsimp only; walk1) | (leave1; (try dsimp only)))
  k_here; (with_reducible show wpAny _ _ (call _ [Value.int (1 + _) _]) _ _ _); (rename Fr _ _ _ _ => F'); (rename News _ _ _ _ => N'); (with_unfolding_all refine range1_rows F' N' ?_); intro h' tk' t' u' v' R' F' N' kp; (try k_sweep)
  (with_reducible show wpAny _ _ (pyIter (Value.ref _)) (fun it s₂ => LoopAtV _ _ _ _ _ _ _ _ _ it s₂) _ _); (rename IsRange _ _ _ _ _ _ _ _ => lR); k_dflt ((rename Fr _ _ _ _ => lF); (rename News _ _ _ _ => lN); (with_unfolding_all refine' law_loop (JT _ _ _ _ _ _ _ _ _ _ _ _ _ _ _ _ _ _ _ _ _) ?hh_z61 lR ?h0_z61 ?h4_z61 lF lN ?st_z61 ?tu_z61 ?dn_z61); (case hh_z61 => exact rfl); (case h0_z61 => omega); (case h4_z61 => omega); (case st_z61 => (intro I hI; refine' JT.start ?m1_z61 ?m2_z61 ?m3_z61 ?m4_z61 ?d1_z61 ?d2_z61 ?m5_z61 ?m6_z61 ?hi_z61 ?m7_z61 ?m8_z61 ?e_z61 ?q1_z61 ?q2_z61 ?q3_z61 ?q4_z61 hI; (case m1_z61 => k_mem); (case m2_z61 => k_mem); (case m3_z61 => k_mem); (case m4_z61 => k_mem); (case d1_z61 => k_asm); (case d2_z61 => exact (by with_reducible assumption : Obj.IsDictOf (PySem.strKind _ _) _ (strPairs [(Value.str (Str.ofString "value") _, Value.none)]))); (case m5_z61 => k_mem); (case m6_z61 => k_mem); (case hi_z61 => k_asm); (case m7_z61 => k_mem); (case m8_z61 => k_mem); (case e_z61 => omega); all_goals k_ne)); (case' tu_z61 => (intro I i news₁ b t h tk hi hj F' N'; obtain ⟨⟨op, oh, o1, o2, o3, k1, k2, k3, ps, d5, hv, t3, hnw, ⟨n1, n2, n3, n4, n5, n6, n7, n8, n9, n10, n11, n12, n13, n14, n15⟩, hI, S, hd1, hd2⟩⟩ := hj; subst hnw)); (case' dn_z61 => (intro I i news₁ m' h tk hm hj F' N'; obtain ⟨⟨op, oh, o1, o2, o3, k1, k2, k3, ps, d5, hv, t3, hnw, hne, hI, S, hd1, hd2⟩⟩ := hj; subst hnw)); all_goals (clear lF lN))
  iterate 4 (first | (k_unfold; (try dsimp only)) | walk1 | (dsimp only; walk1) | (leave1; (try dsimp only)))
  k_end
  (with_reducible show GoodW _ _ _ _ _ _ _); (show GoodW _ _ _ _ _ (.ok (.ret (.bool _))) _); refine' good_true ?F_z62 ?g_z62 ?o_z62; (case F_z62 => with_reducible assumption); (case g_z62 => first | with_reducible assumption | assumption); (case o_z62 => exact rfl)
  iterate 24 (first | (k_unfold; (try dsimp only)) | walk1 | (dsimp only; walk1) | (leave1; (try dsimp only)))
  k_here; (with_reducible show wpAny _ _ (call (Value.ref 440) _) _ _ _); (k_dflt (refine' right_K ?r_B_z63 ?r_F_z63 ?r_X_z63 ?r_N_z63 ?r_T_z63 ?r_C_z63 ?r_XB_z63 ?r_TB_z63 ?r_hk_z63 ?r_e1_z63 ?r_e2_z63 ?r_e3_z63 ?r_e4_z63 ?r_e5_z63 ?r_e6_z63 ?r_e7_z63 ?r_e8_z63 ?r_lo1_z63 ?r_lo2_z63 ?r_n1_z63 ?r_n2_z63 ?r_n3_z63 ?r_n4_z63 ?r_n5_z63 ?r_n6_z63 ?r_n7_z63 ?r_n8_z63 ?r_n9_z63 ?r_n10_z63 ?r_n11_z63 ?r_n12_z63 ?r_n13_z63 ?r_n14_z63 ?r_n15_z63 ?r_S_z63 ?r_hd1_z63 ?r_hd2_z63 ?r_hI_z63 ?r_hlen_z63 ?r_h0_z63 ?r_h1_z63 ?r_hnum_z63 ?r_hdp_z63 ?r_hun_z63 ?_; (case r_hd1_z63 => with_reducible assumption); (case r_hd2_z63 => with_reducible assumption); (case r_S_z63 => with_reducible assumption); (case r_N_z63 => k_asm); (case r_F_z63 => k_asm); (case r_B_z63 => k_asm); (case r_X_z63 => k_asm); (case r_T_z63 => k_asm); (case r_C_z63 => k_asm); (case r_XB_z63 => k_asm); (case r_TB_z63 => k_asm); (case r_hk_z63 => first | exact rfl | k_asm); (case r_hI_z63 => k_asm); (case r_hlen_z63 => first | k_asm | omega); (case r_hnum_z63 => (unfold Num; omega)); (case r_hdp_z63 => ktr_room); (case r_hun_z63 => ktr_units); any_goals (first | with_reducible assumption | omega))); intro op' oh' o1' o2' o3' k1' k2' k3' ps' d5' hv' t3' h' tk' F' N' n1 n2 n3 n4 n5 n6 n7 n8 n9 n10 n11 n12 n13 n14 n15 hsl hd1 hd2; (try dsimp only at N'); (try k_sweep)
  iterate 5 (first | (k_unfold; (try dsimp only)) | walk1 | (dsimp only; walk1) | (leave1; (try dsimp only)))
  k_here; k_dflt (refine' UnrEnd.intro ?F_z64 ?N_z64 _ (fun p hp => hp) ?off_z64 ?_; (case F_z64 => k_asm); (case N_z64 => k_asm); (case off_z64 => (repeat (first | exact List.forall_mem_nil _ | (refine List.forall_mem_cons.mpr ⟨by k_ne, ?_⟩)))); (refine ⟨fun y hy => if_neg hy, ?_⟩; apply JT.next <;> with_reducible assumption))
end Mine
end
theorem PySem.Challenge.cw_qz0094_01_holds : PySem.Challenge.rw_qz0094_01.Holds := by
  exact Mine.law_holds
