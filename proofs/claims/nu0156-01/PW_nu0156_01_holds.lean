import PyProof.Rows.All
import Wide.All
import OpenK.AllK
import Wide.FinOn
import PySem.Challenge.RW_nu0156_01
open PySem PySem.Spec PySem.Calls PySem.W PyProof.Rows PyProof.V
set_option Elab.async false
set_option linter.all false
namespace Mine
set_option maxRecDepth 100000 in
set_option maxHeartbeats 8000000 in
open_top hd for PySem.Challenge.rw_nu0156_01
/-- the walker's lines for the top are off again -/
theorem off_top : True := by
  w_top off
  trivial
end Mine
local macro_rules | `(tactic| k_room) => `(tactic| k_extra "k_room")
local macro_rules | `(tactic| k_ne) => `(tactic| k_extra "k_ne")
local macro_rules | `(tactic| k_all) => `(tactic| k_extra "k_all")
local macro_rules | `(tactic| walk_at "call ref") => `(tactic| k_extra "call ref")
local macro_rules | `(tactic| walk_at "eval ListComp") => `(tactic| k_extra "eval ListComp")
local macro_rules | `(tactic| walk_at "setItem ref int") => `(tactic| k_extra "setItem ref int")
local macro_rules | `(tactic| walk_at "eval Dict nil nil") => `(tactic| k_extra "eval Dict nil nil")
local macro_rules | `(tactic| walk_at "call builtin:dict.get") => `(tactic| k_extra "call builtin:dict.get")
local macro_rules | `(tactic| walk_at "getMethod ref") => `(tactic| k_extra "getMethod ref")
local macro_rules | `(tactic| walk_at "call builtin:sorted") => `(tactic| k_extra "call builtin:sorted")
local macro_rules | `(tactic| walk_at "subscriptTail") => `(tactic| k_extra "subscriptTail")
local macro_rules | `(tactic| walk_at "pyIter ref") => `(tactic| k_extra "pyIter ref")
local macro_rules | `(tactic| walk_at "call builtin:len") => `(tactic| k_extra "call builtin:len")
local macro_rules | `(tactic| walk_at "exec For") => `(tactic| k_extra "exec For")
local macro_rules | `(tactic| walk_at "exec For Name Attribute cons nil") => `(tactic| k_extra "exec For Name Attribute cons nil")
local macro_rules | `(tactic| walk_at "execs cons") => `(tactic| k_extra "execs cons")
local macro_rules | `(tactic| walk_at "call type:zip") => `(tactic| k_extra "call type:zip")
local macro_rules | `(tactic| walk_at "exec For Name BinOp cons nil") => `(tactic| k_extra "exec For Name BinOp cons nil")
local macro_rules | `(tactic| walk_at "binaryOp Add ref ref") => `(tactic| k_extra "binaryOp Add ref ref")
local macro_rules | `(tactic| walk_at "exec Assign cons ListComp") => `(tactic| k_extra "exec Assign cons ListComp")
local macro_rules | `(tactic| walk_at "eval DictComp") => `(tactic| k_extra "eval DictComp")
local macro_rules | `(tactic| walk_at "compareOp In int ref") => `(tactic| k_extra "compareOp In int ref")
local macro_rules | `(tactic| walk_at "exec For Name Call cons nil") => `(tactic| k_extra "exec For Name Call cons nil")
local macro_rules | `(tactic| walk_at "compareOp NotEq ref ref") => `(tactic| k_extra "compareOp NotEq ref ref")
local macro_rules | `(tactic| walk_at "compareOp In str ref") => `(tactic| k_extra "compareOp In str ref")
namespace Mine

/-- every address of the ledger is another one -/
def AllNe (d : Nat) : List (Addr × Obj) → Prop
  | [] => True
  | p :: r => @Ne Nat p.1 d ∧ AllNe d r
theorem allNe_of {d : Addr} : ∀ {l : List (Addr × Obj)}, (∀ p ∈ l, p.1 ≠ d) → AllNe d l
  | [], _ => trivial
  | p :: _, h => ⟨h p (.head _), allNe_of fun q hq => h q (.tail _ hq)⟩
theorem AllNe.ne {d : Addr} {l : List (Addr × Obj)} (h : AllNe d l) : ∀ p ∈ l, p.1 ≠ d := by
  induction l with
  | nil => intro p hp; exact nomatch hp
  | cons q r ih =>
    intro p hp
    rcases List.mem_cons.mp hp with e | hp
    · rw [e]; exact h.1
    · exact ih h.2 p hp

section
variable {h₀ H H' g : Heap} {L L' : Addr} {m m' : Str → Option Value} {adr : List Addr} {news add : List (Addr × Obj)}

theorem gsub_refl : GSub H H adr := fun _ _ e _ => e
theorem gsub_fr (G : GSub H g adr) (F' : Fr g L' H' m') : GSub H H' adr := fun b o e n => F'.keep b o (G b o e n)
theorem gsub_plus {H'' : Heap} (G : GSub H H' adr) (G' : GSub H' H'' adr) : GSub H H'' adr := fun b o e n => G' b o (G b o e n) n
/-- what is told of the changed ones makes the set smaller -/
theorem gsub_less {P : Addr} {o : Obj} {r : List Addr} (G : GSub H H' (P :: r)) (h : H.get? P = some o) (h' : H'.get? P = some o) : GSub H H' r := fun b ob e n => by
  by_cases hb : b = P
  · rw [hb] at e ⊢; rw [h] at e; cases e; exact h'
  · exact G b ob e fun q => (List.mem_cons.mp q).elim hb n
theorem gsub_swap {P R : Addr} {r : List Addr} (G : GSub H H' (P :: R :: r)) : GSub H H' (R :: P :: r) := fun b o e n => G b o e fun q => n (by
  rcases List.mem_cons.mp q with rfl | q
  · exact .tail _ (.head _)
  · rcases List.mem_cons.mp q with rfl | q
    · exact .head _
    · exact .tail _ (.tail _ q))

theorem fr_keep (F : Fr h₀ L H m) (G : GSub H H' adr) (hL : L ∉ adr) (h0 : ∀ b ∈ adr, h₀.get? b = none) : Fr h₀ L H' m :=
  ⟨F.ns.at' fun o e => G _ o e hL, fun b o e => G b o (F.keep b o e) fun hb => (by rw [h0 b hb] at e; cases e), F.above⟩
theorem news_keep (N : News h₀ L H news) (G : GSub H H' adr) (hd : ∀ p ∈ news, p.1 ∉ adr) : News h₀ L H' news := fun p hp =>
  ⟨G _ _ (N p hp).1 (hd p hp), (N p hp).2⟩
theorem fr_keep0 (F : Fr h₀ L H m) (G : GSub H H' []) : Fr h₀ L H' m := fr_keep F G (fun h => nomatch h) fun _ h => nomatch h
theorem news_keep0 (N : News h₀ L H news) (G : GSub H H' []) : News h₀ L H' news := news_keep N G fun _ _ h => nomatch h

theorem upd_after {P : Addr} {o o' : Obj} {upd : Obj → List (Addr × Obj)} (F : Fr h₀ L H m) (N : News h₀ L H news) (U : UpdF P o news upd) (G : GSub H H' [P]) (hP : H'.get? P = some o') :
    Fr h₀ L H' m ∧ News h₀ L H' (upd o') := by
  obtain ⟨pre, post, rfl, hg, h1, h2⟩ := U.split
  have z := N (P, o) (List.mem_append.mpr (.inr (.head _)))
  refine ⟨fr_keep F G (fun h => z.2.1 (List.mem_singleton.mp h).symm) (fun b hb => List.mem_singleton.mp hb ▸ z.2.2), ?_⟩
  rw [hg]
  intro p hp
  rcases List.mem_append.mp hp with q | q
  · have y := N p (List.mem_append_left _ q)
    exact ⟨G _ _ y.1 fun e => h1 p q (List.mem_singleton.mp e), y.2⟩
  · rcases List.mem_cons.mp q with rfl | q
    · exact ⟨hP, z.2⟩
    · have y := N p (List.mem_append_right _ (.tail _ q))
      exact ⟨G _ _ y.1 fun e => h2 p q (List.mem_singleton.mp e), y.2⟩

theorem ne_of_fresh {x : Addr} (N : News h₀ L H news) (hx : H.get? x = none) : ∀ p ∈ news, p.1 ≠ x := fun p hp e => by
  have := (N p hp).1
  rw [e, hx] at this; cases this
theorem allNe_fresh {x : Addr} (N : News h₀ L H news) (hx : H.get? x = none) : AllNe x news := allNe_of (ne_of_fresh N hx)
theorem add_after (F : Fr h₀ L H m) (N : News h₀ L H news) (G : GSub H H' []) (ha : ∀ p ∈ add, H.get? p.1 = none ∧ H'.get? p.1 = some p.2) :
    Fr h₀ L H' m ∧ News h₀ L H' (add ++ news) := by
  refine ⟨fr_keep0 F G, fun p hp => ?_⟩
  rcases List.mem_append.mp hp with q | q
  · refine ⟨(ha p q).2, fun e => ?_, ?_⟩
    · obtain ⟨oL, _, _, hL, _⟩ := F.ns
      have := (ha p q).1
      rw [e, hL] at this; cases this
    · cases z : h₀.get? p.1 with
      | none => rfl
      | some o => have := (ha p q).1; rw [F.keep _ _ z] at this; cases this
  · exact news_keep0 N G p q

/-- what a callee made was not there -/
theorem fresh_of {x : Addr} {o : Obj} (G : GSub H g adr) (N : News g L' H' news) (hm : (x, o) ∈ news) (hx : x ∉ adr) : H.get? x = none := by
  cases z : H.get? x with
  | none => rfl
  | some q => have := (N _ hm).2.2; rw [G _ _ z hx] at this; cases this
end

theorem foldl_in {f : Int → Int → Int} {lo hi : Int} (hf : ∀ a n, lo ≤ f a n ∧ f a n < hi) : ∀ (l : List Int) (a : Int), lo ≤ a → a < hi → lo ≤ l.foldl f a ∧ l.foldl f a < hi
  | [], _, h1, h2 => ⟨h1, h2⟩
  | n :: r, a, _, _ => foldl_in hf r (f a n) (hf a n).1 (hf a n).2

theorem allNe_append {d : Nat} {a b : List (Addr × Obj)} (ha : AllNe d a) (hb : AllNe d b) : AllNe d (a ++ b) := allNe_of fun p hp => (List.mem_append.mp hp).elim (ha.ne p) (hb.ne p)
theorem AllNe.left {d : Nat} {a b : List (Addr × Obj)} (h : AllNe d (a ++ b)) : AllNe d a := allNe_of fun p hp => h.ne p (List.mem_append.mpr (.inl hp))
theorem AllNe.right {d : Nat} {a b : List (Addr × Obj)} (h : AllNe d (a ++ b)) : AllNe d b := allNe_of fun p hp => h.ne p (List.mem_append.mpr (.inr hp))
/-- the made ones are off each of the ledger -/
def OffAll (tl : List (Addr × Obj)) : List (Addr × Obj) → Prop
  | [] => True
  | p :: r => AllNe p.1 tl ∧ OffAll tl r
theorem offAll_of {tl : List (Addr × Obj)} : ∀ {l : List (Addr × Obj)}, (∀ q ∈ l, AllNe q.1 tl) → OffAll tl l
  | [], _ => trivial
  | p :: _, h => ⟨h p (.head _), offAll_of fun q hq => h q (.tail _ hq)⟩
end Mine
namespace Mine
/-- room, told in a short term -/
theorem roomL {dp b n : Nat} (k : Nat) (h : dp + b < n) (hk : Nat.ble k b = true) : dp + k < n := Nat.lt_of_le_of_lt (Nat.add_le_add_left (Nat.le_of_ble_eq_true hk) dp) h
theorem roomE {dp b n : Nat} (k : Nat) (h : dp + b ≤ n) (hk : Nat.ble k b = true) : dp + k ≤ n := Nat.le_trans (Nat.add_le_add_left (Nat.le_of_ble_eq_true hk) dp) h
/-- a ledger within another, piece by piece -/
theorem subC {α : Type} {a : α} {l l' : List α} (h : a ∈ l') (r : ∀ q ∈ l, q ∈ l') : ∀ q ∈ a :: l, q ∈ l' := fun q hq => (List.mem_cons.mp hq).elim (fun e => e ▸ h) (r q)
theorem subT {α : Type} {a : α} {l l' : List α} (r : ∀ q ∈ l, q ∈ l') : ∀ q ∈ l, q ∈ a :: l' := fun q hq => .tail _ (r q hq)
theorem subI {α : Type} {l : List α} : ∀ q ∈ l, q ∈ l := fun _ hq => hq
theorem subA {α : Type} {a b l' : List α} (h : ∀ q ∈ a, q ∈ l') (r : ∀ q ∈ b, q ∈ l') : ∀ q ∈ a ++ b, q ∈ l' := fun q hq => (List.mem_append.mp hq).elim (h q) (r q)
theorem subL {α : Type} {a b l : List α} (h : ∀ q ∈ l, q ∈ a) : ∀ q ∈ l, q ∈ a ++ b := fun q hq => List.mem_append.mpr (.inl (h q hq))
theorem subR {α : Type} {a b l : List α} (h : ∀ q ∈ l, q ∈ b) : ∀ q ∈ l, q ∈ a ++ b := fun q hq => List.mem_append.mpr (.inr (h q hq))
end Mine
namespace Mine
noncomputable abbrev tupObj (vs : List Value) (n : Nat) : Obj := { cls := .type "tuple", data := .seq vs.toArray n }
noncomputable abbrev pairDat (q : Int × Int) : Dat := .tuple [.int q.1, .int q.2]

/-- a written list of written pairs of ints -/
inductive PairElts : List PySem.Expr → List (Int × Int) → Prop
  | nil : PairElts [] []
  | cons (a b : Int) (p1 p2 : Pos) (k : Nat) (p : Pos) {r : List PySem.Expr} {ps : List (Int × Int)} (h : PairElts r ps) : PairElts (.Tuple [.Constant (.int a) 0 p1, .Constant (.int b) 0 p2] k p :: r) ((a, b) :: ps)

section
variable {M : Model} {A : Around} {E : Value → Shared → Prop} {env : Env} {h₀ : Heap} {L : Addr} {m : Str → Option Value}

theorem spliced_pairs {pos : Pos} {elts : List PySem.Expr} {ps : List (Int × Int)} (he : PairElts elts ps) : ∀ (s : Shared) (news : List (Addr × Obj)) (Q : List Value → Shared → Prop), Fr h₀ L s.heap m → News h₀ L s.heap news →
    (∀ vs tl h' tk, Fr h₀ L h' m → News h₀ L h' (tl ++ news) → DatAll tl vs (ps.map pairDat) → (∀ q ∈ news, ∀ p ∈ tl, p.1 ≠ q.1) → Q vs { s with heap := h', toks := tk }) →
    wpAny M A (spliced (backTo pos (starEach elts env))) Q E s := by
  induction he with
  | nil =>
    intro s news Q F N h
    exact spliced_none (h [] [] s.heap s.toks F N .nil fun _ _ _ hp => nomatch hp)
  | cons a b p1 p2 k p _ ih =>
    intro s news Q F N h
    refine spliced_more ?_
    refine Tuple_ (spliced_more (wpAny_Constant_int ?_))
    refine spliced_more (wpAny_Constant_int ?_)
    refine spliced_none ?_
    refine newTuple_N (hsz := by show (2 : Nat) ≤ sizeLine; rw [sizeLine_eq]; decide) F N fun h₁ F₁ N₁ => ?_
    refine ih _ _ _ F₁ N₁ ?_
    intro vs tl h' tk F' N' D' ne
    refine h _ (tl ++ [(s.heap.objs.size, _)]) h' tk F' (by simpa using N') ?_ ?_
    · exact .cons (.tuple (List.mem_append.mpr (.inr (.head _))) (.cons (.int _ _) (.cons (.int _ _) .nil))) (D'.mono fun p hp => List.mem_append.mpr (.inl hp))
    · intro q hq p hp
      rcases List.mem_append.mp hp with hp | hp
      · exact ne q (.tail _ hq) p hp
      · rw [List.mem_singleton.mp hp]
        exact Nat.ne_of_gt (Heap.lt_size (N q hq).1)

theorem pairs_List {pos : Pos} {elts : List PySem.Expr} {ps : List (Int × Int)} {s : Shared} {news : List (Addr × Obj)} {Q : Value → Shared → Prop} (he : PairElts elts ps) (F : Fr h₀ L s.heap m) (N : News h₀ L s.heap news) (hsz : ps.length ≤ 1000)
    (h : ∀ x vs tl h' tk, Fr h₀ L h' m → News h₀ L h' ((x, listOf vs.toArray 0) :: (tl ++ news)) → DatAll tl vs (ps.map pairDat) → (∀ q ∈ news, ∀ p ∈ tl, p.1 ≠ q.1) → AllNe x (tl ++ news) → Q (.ref x) { s with heap := h', toks := tk }) :
    wpAny M A (eval (.List elts pos) env) Q E s := by
  refine List_ (spliced_pairs he s news _ F N ?_)
  intro vs tl h' tk F' N' D ne
  have hl : vs.length ≤ sizeLine := by
    have := D.length
    rw [List.length_map] at this
    rw [this, sizeLine_eq]; omega
  refine newList_N (hsz := hl) F' N' fun h₁ F₁ N₁ => ?_
  exact h _ vs tl h₁ tk F₁ N₁ D ne (allNe_of fun p hp => Nat.ne_of_lt (Heap.lt_size (N' p hp).1))
end

/-- a fresh list of fresh pairs of ints, all else as it was -/
structure NewPairs (H h' : Heap) (x : Addr) (vs : List Value) (n : Nat) (tl : List (Addr × Obj)) (ps : List (Int × Int)) : Prop where
  keep : GSub H h' []
  new : H.get? x = none
  is : h'.get? x = some (listOf vs.toArray n)
  rest : ∀ p ∈ tl, H.get? p.1 = none ∧ h'.get? p.1 = some p.2
  dat : DatAll tl vs (ps.map pairDat)
  off : ∀ p ∈ tl, p.1 ≠ x
section
variable {h₀ H h' g : Heap} {L L' x : Addr} {m m' : Str → Option Value} {vs : List Value} {n : Nat} {tl news : List (Addr × Obj)} {ps : List (Int × Int)}
theorem NewPairs.after (P : NewPairs H h' x vs n tl ps) (F : Fr h₀ L H m) (N : News h₀ L H news) :
    Fr h₀ L h' m ∧ News h₀ L h' ((x, listOf vs.toArray n) :: (tl ++ news)) ∧ AllNe x (tl ++ news) ∧ (∀ q ∈ news, ∀ p ∈ tl, p.1 ≠ q.1) := by
  obtain ⟨F', N'⟩ := add_after (add := (x, listOf vs.toArray n) :: tl) F N P.keep (fun p hp => by
    rcases List.mem_cons.mp hp with rfl | hp
    · exact ⟨P.new, P.is⟩
    · exact P.rest p hp)
  refine ⟨F', N', allNe_of fun p hp => ?_, fun q hq p hp => ?_⟩
  · rcases List.mem_append.mp hp with hp | hp
    · exact P.off p hp
    · exact ne_of_fresh N P.new p hp
  · exact fun e => ne_of_fresh N (P.rest p hp).1 q hq e.symm
theorem NewPairs.of (G : GSub H g []) (F' : Fr g L' h' m') (N' : News g L' h' ((x, listOf vs.toArray n) :: (tl ++ news))) (D : DatAll tl vs (ps.map pairDat)) (ne : AllNe x (tl ++ news)) : NewPairs H h' x vs n tl ps where
  keep := gsub_fr G F'
  new := fresh_of G N' (.head _) fun h => nomatch h
  is := N'.get (.head _)
  rest := fun p hp => ⟨fresh_of (o := p.2) G N' (.tail _ (List.mem_append.mpr (.inl hp))) (fun h => nomatch h), N'.get (a := p.1) (o := p.2) (.tail _ (List.mem_append.mpr (.inl hp)))⟩
  dat := D
  off := fun p hp => ne.ne p (List.mem_append.mpr (.inl hp))
end
end Mine
namespace Mine
section
variable {prog : Program} {w : World} {A₀ A : Around} {s : Shared} {base h₀ : Heap} {outer : List Env} {L : Addr} {m : Str → Option Value} {env : Env} {news : List (Addr × Obj)} {K : Frag} {p : Program} {loose : List Str} {mean : ExcName → Option Value} {mg mb : Str → Option Value}
  {R : Result → Shared → Prop} {name qual : Str} {params : Arguments} {body : List Stmt} {scope : Scope} {dV kV doc pm cdv ct oc : Value} {an od : Option Addr} {osl : Array (Option Value)} {f : Addr} {args : Args} {binds : List (Str × Value)}

/-- entering a def with captured names, told what the ground keeps of all that stood -/
theorem enterCG (B : Below A₀ base outer h₀) (F : Fr h₀ L s.heap m) (X₀ : K.In h₀) (N : News h₀ L s.heap news) (T : Top p loose mean mg mb h₀) (hA : A.frames = some (env :: outer)) (hf : env.frame = some L) (hke : env.scope.kind = .function)
    (ho : K.lookup f = some ⟨oc, od, .func (fnOf name qual params body scope dV kV doc pm an cdv ct), osl⟩) (hcd : codeIn K cdv qual = true) (hroom : A.depth < recursionLimit)
    (hbind : BindsTo s (fnOf name qual params body scope dV kV doc pm an cdv ct) args binds) (hkind : (binds.all fun y => scope.names.lookup y.1 == some .local || scope.names.lookup y.1 == some .cell) = true)
    (hnd : ((cellsFrom 0 scope.names []).map (·.1)).Nodup)
    (h : ∀ g L' h₁ tk cells, Fr h₀ L g m → Fr g L' h₁ (bindL (envOfC qual scope L' f cdv).kindOf binds fun _ => none) → News g L' h₁ (cells ++ news) →
      CellsAre (bindC (envOfC qual scope L' f cdv).kindOf binds fun _ => none) (cellsFrom (L' + 1) scope.names []) cells → Below A base (env :: outer) g → K.In g → Top p loose mean mg mb g → (∀ p ∈ news, p.1 < L') → GSub s.heap g (news.map (·.1)) →
      wpAny (model prog w) (A.deeper (envOfC qual scope L' f cdv)) (execs body (envOfC qual scope L' f cdv))
        (fun fl s' => LeaveK h₀ L m g R (match fl with | .ret v => v | _ => .none) s')
        (fun e s' => wpAny (model prog w) (A.deeper (envOfC qual scope L' f cdv)) (leaving (envOfC qual scope L' f cdv) e) (fun _ s'' => R (.error e) s'') (fun e' s'' => R (.error e') s'') s')
        { s with heap := h₁, toks := tk })
    (hco : scope.isCoroutine = false) (hgen : scope.isGenerator = false) (hk : scope.kind = .function) : codeAny (model prog w) A (.call (.ref f) args) R s := by
  obtain ⟨FG, BG, st, lv⟩ := groundX (R := R) B F N hA hf hke
  refine codeAny_call_function hroom ((X₀.keeps F.keep) _ _ ho) rfl hco hgen rfl (codeRec_of (X₀.keeps F.keep) hcd) (hbind _ _ _ _ ?_)
  refine wpAny_newFunctionEnv_cells hk (kindsX hkind _) fun env' he s' x => ?_
  subst he
  refine ⟨(T.nolimit.keeps F.keep).keeps x.toInCall.keep, codeAny_func ?_⟩
  obtain ⟨h₁, tk, rfl, _⟩ := x.done
  have old := x.toInCall.keep
  have gone : ∀ b, (hideAll s.heap (news.map (·.1))).get? b = none ∨ ∃ o, s.heap.get? b = some o := fun b => by
    cases q : (hideAll s.heap (news.map (·.1))).get? b with
    | none => exact .inl rfl
    | some o => exact .inr ⟨o, of_hideAll _ q⟩
  obtain ⟨cells, NC, Y⟩ := Cl.news (h₀ := s.heap) (Nat.le_refl _) fun n c hm => ⟨x.cell n c (lookup_of_mem_nodup (cellsFrom_names scope.names 0 (s.heap.objs.size + 1) [] [] rfl ▸ hnd) hm), x.above n c hm⟩
  refine wpAny_mono (h _ s.heap.objs.size h₁ tk cells FG ⟨x.toInCall.ns, fun b o e => old b o (of_hideAll _ e), Nat.le_of_eq (hideAll_size _ _)⟩ (fun q hq => ?_) Y BG (X₀.keeps st) (T.keeps st) (fun q hq => Heap.lt_size (N q hq).1) fun b o e n => hideAll_get _ e n) (fun fl s' hl => lv _ _ hl) fun _ _ y => y
  rcases List.mem_append.mp hq with hq | hq
  · refine ⟨(NC q hq).1, (NC q hq).2.1, ?_⟩
    rcases gone q.1 with e | ⟨o, e⟩
    · exact e
    · have := (NC q hq).2.2; rw [e] at this; cases this
  · exact ⟨old _ _ (N q hq).1, Nat.ne_of_lt (Heap.lt_size (N q hq).1), hideAll_none _ (List.mem_map_of_mem hq)⟩
end
end Mine
namespace Mine
/-- here the walk stands still: what is left is shown by hand -/
def Stop (P : Prop) : Prop := P
/-- a frame's map with some names written out -/
noncomputable def over (l : List (Str × Value)) (m : Str → Option Value) : Str → Option Value := fun y => match l.lookup y with | some v => some v | none => m y
theorem over_eq {l : List (Str × Value)} {m : Str → Option Value} (h : ∀ q ∈ l, m q.1 = some q.2) : over l m = m := by
  funext y
  unfold over
  cases e : l.lookup y with
  | none => rfl
  | some v =>
    have : (y, v) ∈ l := by
      clear h
      induction l with
      | nil => cases e
      | cons q r ih =>
        rw [List.lookup_cons] at e
        by_cases hy : (y == q.1) = true
        · rw [hy] at e
          have e' : q.2 = v := Option.some.inj e
          have hy' : y = q.1 := beq_iff_eq.mp hy
          rw [hy', ← e']; exact .head _
        · have hy' : (y == q.1) = false := by simpa using hy
          rw [hy'] at e
          exact .tail _ (ih e)
    exact (h _ this).symm
theorem fr_over {h₀ h : Heap} {L : Addr} {m : Str → Option Value} (l : List (Str × Value)) (F : Fr h₀ L h m) (hl : ∀ q ∈ l, m q.1 = some q.2) : Fr h₀ L h (over l m) := by
  rw [over_eq hl]; exact F
theorem all_nil {m : Str → Option Value} : ∀ q ∈ ([] : List (Str × Value)), m q.1 = some q.2 := fun _ h => nomatch h
theorem all_cons {m : Str → Option Value} {x : Str} {v : Value} {l : List (Str × Value)} (h : m x = some v) (r : ∀ q ∈ l, m q.1 = some q.2) : ∀ q ∈ (x, v) :: l, m q.1 = some q.2 := fun q hq => by
  rcases List.mem_cons.mp hq with rfl | hq
  · exact h
  · exact r q hq

section
variable {prog : Program} {w : World} {A : Around} {E : Value → Shared → Prop} {s : Shared} {env : Env} {h₀ : Heap} {target : PySem.Expr} {body : List Stmt} {Q : Flow → Shared → Prop}

theorem unrMono {L : Addr} {s₁ : Shared} {its : List (Addr × Obj)} {r r' : (Str → Option Value) → List (Addr × Obj) → Prop} {f : Flow} {s₂ : Shared} (h : UnrPostW h₀ L s₁ its r Q f s₂) (k : ∀ m n, (∀ p ∈ n, ∀ q ∈ its, p.1 ≠ q.1) → r m n → r' m n) : UnrPostW h₀ L s₁ its r' Q f s₂ := by
  have fin : UnrEndW h₀ L s₁ its r s₂ → UnrEndW h₀ L s₁ its r' s₂ := fun ⟨h', tk, m', news', e, F, N, o, hr⟩ => ⟨h', tk, m', news', e, F, N, o, k m' news' o hr⟩
  cases f with
  | ret v => exact h
  | brk => exact h
  | next => exact fin h
  | cont => exact fin h

/-- a loop over a list of the ledger, by an invariant over the turn's number, the frame's map and the ledger -/
theorem loopL {ax : Addr} {vs : List Value} {n : Nat} {m₀ : Str → Option Value} {news : List (Addr × Obj)} (J : Nat → (Str → Option Value) → List (Addr × Obj) → Prop)
    (hh : A.handled = none) (F : Fr h₀ env.locals s.heap m₀) (N : News h₀ env.locals s.heap news) (hm : (ax, listOf vs.toArray n) ∈ news) (hJ : J 0 m₀ news)
    (hk : ∀ i m nw, J i m nw → (ax, listOf vs.toArray n) ∈ nw)
    (step : ∀ I o i v m nw h tk, vs[i]? = some v → J i m nw → AllNe I nw → Fr h₀ env.locals h m → News h₀ env.locals h ((I, o) :: nw) → o.cls = .type "list_iterator" →
      wpAny (model prog w) A (assign target env v) (fun _ s₂ => wpAny (model prog w) A (execs body env) (fun f s₃ => Stop (UnrPostW h₀ env.locals { s with heap := h, toks := tk } [(I, o)] (J (i + 1)) Q f s₃)) E s₂) E { s with heap := h, toks := tk })
    (done : ∀ m nw h tk, J vs.length m nw → Fr h₀ env.locals h m → News h₀ env.locals h nw → Q .next { s with heap := h, toks := tk }) :
    wpAny (model prog w) A (pyIter (.ref ax)) (fun it s₂ => TurnsAt prog w A h₀ env target body Q E it s₂) E s := by
  refine iter_listTurns hh F N hm rfl rfl fun I hI => ?_
  have main : ∀ k i m nw, i + k = vs.length → J i m nw → (∀ p ∈ nw, p.1 ≠ I) → ItemsRest prog w A E h₀ env target body Q s [(I, "list_iterator")] [(ax, listOf vs.toArray n)] ((vs.drop i).map .val) m nw := by
    intro k
    induction k with
    | zero =>
      intro i m nw hi j _
      have e : i = vs.length := by omega
      subst e
      rw [List.drop_length]
      exact ItemsRest.zero fun h tk F' N' => done m nw h tk j F' N'
    | succ k ih =>
      intro i m nw hi j ho
      have hlt : i < vs.length := by omega
      rw [List.drop_eq_getElem_cons hlt, List.map_cons]
      refine ItemsRest.val fun h tk F' => AllObj.cons fun o ho' => AllObj.nil fun N' => ?_
      refine wpAny_mono (step I o i _ m nw h tk (List.getElem?_eq_getElem hlt) j (allNe_of ho) F' (by simpa using N') ho') (fun _ s₂ h₂ => wpAny_mono h₂ (fun f s₃ h₃ => ?_) fun _ _ e => e) fun _ _ e => e
      refine unrMono h₃ fun m' n' o' j' => ⟨And.intro (hk _ _ _ j') trivial, ih (i + 1) m' n' (by omega) j' fun p hp => o' p hp _ (.head _)⟩
  have z := main vs.length 0 m₀ news (Nat.zero_add _) hJ fun p hp => Nat.ne_of_lt (hI p hp)
  simpa using z

theorem turnEnd {L I : Addr} {o : Obj} {s₁ : Shared} {m' : Str → Option Value} {all nx : List (Addr × Obj)} {r : (Str → Option Value) → List (Addr × Obj) → Prop} {h' : Heap} {tk : Nat} (F : Fr h₀ L h' m') (N : News h₀ L h' all) (hs : ∀ p ∈ (I, o) :: nx, p ∈ all) (ho : AllNe I nx) (hr : r m' nx) :
    UnrEndW h₀ L s₁ [(I, o)] r { s₁ with heap := h', toks := tk } :=
  ⟨h', tk, m', nx, rfl, F, fun p hp => N p (hs p (by simpa using hp)), fun p hp q hq => by rw [List.mem_singleton.mp hq]; exact ho.ne p hp, hr⟩
end

section
variable {prog : Program} {w : World} {A : Around} {E : Value → Shared → Prop} {s : Shared} {env : Env} {h₀ : Heap} {x : Str} {body : List Stmt} {Q : Flow → Shared → Prop}
/-- a loop over a range by ones, by such an invariant -/
theorem loopR {r : Addr} {a₀ b₀ : Int} {t₀ u₀ v₀ : Tok} {n : Nat} {m₀ : Str → Option Value} {news : List (Addr × Obj)} (J : Nat → (Str → Option Value) → List (Addr × Obj) → Prop)
    (hh : A.handled = none) (hr : IsRange s.heap r a₀ b₀ 1 t₀ u₀ v₀) (hsmall : Builtin.Range.small a₀ b₀ 1 = true) (hsz : Builtin.Range.rangeSize a₀ b₀ 1 = (n : Int)) (F : Fr h₀ env.locals s.heap m₀) (N : News h₀ env.locals s.heap news)
    (hj : J 0 m₀ news)
    (turn : ∀ i t m₁ nx h tk own, i < n → J i m₁ nx → OwnOff own (nx.map (·.1)) → Fr h₀ env.locals h (fun y => if y = x then some (.int (a₀ + (i : Int)) t) else m₁ y) → News h₀ env.locals h (nx ++ own) →
      wpAny (model prog w) A (execs body env) (fun f s₃ => Stop (InvPostG h₀ env.locals (J (i + 1)) own { s with heap := h, toks := tk } Q f s₃)) E { s with heap := h, toks := tk })
    (done : ∀ m₁ nx h tk, J n m₁ nx → Fr h₀ env.locals h m₁ → News h₀ env.locals h nx → Q .next { s with heap := h, toks := tk }) :
    wpAny (model prog w) A (pyIter (.ref r)) (fun it s₂ => LoopAtV prog w A h₀ env x body Q E it s₂) E s := by
  refine wpAny_pyIter_range hr hsmall ?_
  have W : Walks prog w A s.heap.objs.size [s.heap.objs.size] [s.heap.objs.size] n (fun i v => i < n ∧ ∃ t, v = .int (a₀ + i * 1) t)
      (fun i h => IsRangeIter h s.heap.objs.size (a₀ + (i : Nat) * 1) ((n : Int) - (i : Nat)) 1) := (Walks.range hh _ a₀ 1 n).bound
  refine kdr_loop J W (fun _ h => h) (fun _ h => h) ?_ ?_ ?_ ?_ (by show IsRangeIter _ _ _ _ _; rw [hsz]; simpa using Heap.get?_push_size _ rfl) (F.push _) (fun p hp => ⟨Heap.get?_push_of_some _ (N p hp).1, (N p hp).2⟩) hj ?_ done
  · intro i h hi b hb
    rw [List.mem_singleton.mp hb]
    exact ⟨_, hi⟩
  · intro hm
    exact absurd F.ns.lt ((List.mem_singleton.mp hm) ▸ Nat.lt_irrefl _)
  · intro b hb
    rw [List.mem_singleton.mp hb]
    exact next_is_new F
  · intro p hp hI
    exact absurd (Heap.lt_size (N p hp).1) ((List.mem_singleton.mp hI) ▸ Nat.lt_irrefl _)
  · rintro i v m₁ nx h tk own hi ⟨_, t, rfl⟩ hoff hJ F₁ N₁
    have e1 : a₀ + (i : Int) * 1 = a₀ + (i : Int) := by omega
    rw [e1] at F₁
    exact turn i t m₁ nx h tk own hi hJ hoff F₁ N₁
end

section
open LCg
variable {prog : Program} {w : World} {A : Around} {E : Value → Shared → Prop} {s : Shared} {h₀ : Heap} {L : Addr} {m : Str → Option Value} {env : Env}
/-- a comprehension's turns, by an invariant over what is built and the ledger -/
theorem compJ {elt : PySem.Expr} {x : Str} {scope : Scope} {cl : List (Str × Addr)} {S : List (Addr × Obj) → Prop} {P : Nat → Value → Prop} {Fin : List Value → List (Addr × Obj) → Prop} {n : Nat} (J : Nat → List Value → List (Addr × Obj) → Prop)
    (step : ∀ i ys news v I oI C oC D m₂ h tk (E' : Value → Shared → Prop), i < n → J i ys news → P i v → NsObj oC m₂ → m₂ x = some v → Fr h₀ L h m → News h₀ L h ((I, oI) :: (C, oC) :: (D, lst ys) :: news) → Off3 I C D news → ((@Ne Nat I C) ∧ (@Ne Nat I D) ∧ (@Ne Nat C D)) →
      wpAny (model prog w) A (eval elt (compEnvC scope cl C env)) (fun y s₃ => Stop (CompEnd h₀ L m { s with heap := h, toks := tk } I oI C oC D (lst ys) S (fun y news' => J (i + 1) (ys ++ [y]) news') y s₃)) E' { s with heap := h, toks := tk })
    (fin : ∀ ys news, J n ys news → Fin ys news) : ∀ k i ys news, i + k = n → J i ys news → CompRest prog w A h₀ L m env elt x scope cl s S P Fin k i ys news := by
  intro k
  induction k with
  | zero =>
    intro i ys news hi j
    have e : i = n := by omega
    subst e
    exact CompRest.zero (fin ys news j)
  | succ k ih =>
    intro i ys news hi j
    refine CompRest.succ fun v I oI C oC D m₂ h tk E' hP hC hx F N o3 ne => ?_
    refine wpAny_mono (step i ys news v I oI C oC D m₂ h tk E' (by omega) j hP hC hx F N o3 ne) (fun y s₂ h₂ => ?_) fun _ _ e => e
    obtain ⟨h', tk', news', e, F', N', o', hS, hr⟩ := h₂
    exact ⟨h', tk', news', e, F', N', o', hS, ih (i + 1) _ _ (by omega) hr⟩

theorem compEnd {I C D : Addr} {s₁ : Shared} {oI oC oD : Obj} {S : List (Addr × Obj) → Prop} {rest : Value → List (Addr × Obj) → Prop} {y : Value} {h' : Heap} {tk : Nat} {all : List (Addr × Obj)} (news' : List (Addr × Obj))
    (F : Fr h₀ L h' m) (N : News h₀ L h' all) (sub : ∀ p ∈ (I, oI) :: (C, oC) :: (D, oD) :: news', p ∈ all) (off : Off3 I C D news') (hS : S news') (r : rest y news') :
    CompEnd h₀ L m s₁ I oI C oC D oD S rest y { s₁ with heap := h', toks := tk } := CompEnd.intro F N news' sub off hS r

theorem allLt_ne {d : Nat} : ∀ {l : List (Addr × Obj)}, AllLt d l → ∀ p ∈ l, p.1 < d := fun {_} h => tb_ltOf h
/-- an element that made one object -/
theorem compEnd1 {I C D T : Addr} {s₁ : Shared} {oI oC oD oT : Obj} {S : List (Addr × Obj) → Prop} {rest : Value → List (Addr × Obj) → Prop} {y : Value} {h' : Heap} {tk : Nat} (pre tl : List (Addr × Obj))
    (F : Fr h₀ L h' m) (N : News h₀ L h' ((T, oT) :: (I, oI) :: (C, oC) :: (D, oD) :: (pre ++ tl))) (hl : AllLt T ((I, oI) :: (C, oC) :: (D, oD) :: (pre ++ tl))) (off : Off3 I C D (pre ++ tl)) (hS : S (pre ++ (T, oT) :: tl)) (r : AllNe T (pre ++ tl) → OffAll [(T, oT)] (pre ++ tl) → rest y (pre ++ (T, oT) :: tl)) :
    CompEnd h₀ L m s₁ I oI C oC D oD S rest y { s₁ with heap := h', toks := tk } := by
  have lt := allLt_ne hl
  refine CompEnd.intro F N (pre ++ (T, oT) :: tl) ?_ ?_ hS (r (allNe_of fun p hp => Nat.ne_of_lt (lt p (.tail _ (.tail _ (.tail _ hp))))) (offAll_of fun p hp => ⟨Nat.ne_of_gt (lt p (.tail _ (.tail _ (.tail _ hp)))), trivial⟩))
  · intro p hp
    rcases List.mem_cons.mp hp with rfl | hp
    · exact .tail _ (.head _)
    rcases List.mem_cons.mp hp with rfl | hp
    · exact .tail _ (.tail _ (.head _))
    rcases List.mem_cons.mp hp with rfl | hp
    · exact .tail _ (.tail _ (.tail _ (.head _)))
    rcases List.mem_append.mp hp with hp | hp
    · exact .tail _ (.tail _ (.tail _ (.tail _ (List.mem_append.mpr (.inl hp)))))
    rcases List.mem_cons.mp hp with rfl | hp
    · exact .head _
    · exact .tail _ (.tail _ (.tail _ (.tail _ (List.mem_append.mpr (.inr hp)))))
  · refine Off3.of fun p hp => ?_
    rcases List.mem_append.mp hp with hp | hp
    · exact off.mem p (List.mem_append.mpr (.inl hp))
    rcases List.mem_cons.mp hp with rfl | hp
    · exact ⟨Nat.ne_of_gt (lt _ (.head _)), Nat.ne_of_gt (lt _ (.tail _ (.head _))), Nat.ne_of_gt (lt _ (.tail _ (.tail _ (.head _))))⟩
    · exact off.mem p (List.mem_append.mpr (.inr hp))
theorem ListComp_stop {elt iter : PySem.Expr} {x : Str} {px : Pos} {scope : Scope} {cl : List (Str × Addr)} {pos : Pos} {Q : Value → Shared → Prop} (F₀ : Fr h₀ L s.heap m)
    (hclos : closureFor scope env = pure cl) (hcell : ∀ y ∈ scope.names, y.2 ≠ .cell) (hkind : scope.kind = .function)
    (hnames : ∀ y ∈ scope.names, y.2 = .local → scope.names.lookup y.1 = some .local) (hx : scope.names.lookup x = some .local)
    (h : wpAny (model prog w) A (eval iter env) (fun v s₁ => Stop (CompSrc prog w A h₀ L m env elt x scope cl (fun s₂ => FinE h₀ L m s₂ Q) v s₁)) E s)
    (hs : ∀ x, foldedSetIterable iter env x = pure x := by intro _; rfl) :
    wpAny (model prog w) A (eval (.ListComp elt [⟨.Name x px, iter, [], 0⟩] scope pos) env) Q E s := ListComp_U F₀ hclos hcell hkind hnames hx h hs
theorem AssignComp_stop {elt iter : PySem.Expr} {x y : Str} {px py : Pos} {scope : Scope} {cl : List (Str × Addr)} {pos spos : Pos} {Q : Flow → Shared → Prop} (F₀ : Fr h₀ L s.heap m) (hLe : env.locals = L)
    (hsw : swapsWith (.ListComp elt [⟨.Name x px, iter, [], 0⟩] scope pos) (some (.Name y py)) spos.line env = pure true)
    (hclos : closureFor scope env = pure cl) (hcell : ∀ z ∈ scope.names, z.2 ≠ .cell) (hkind : scope.kind = .function)
    (hnames : ∀ z ∈ scope.names, z.2 = .local → scope.names.lookup z.1 = some .local) (hx : scope.names.lookup x = some .local)
    (hy : env.kindOf y = some .local) (hp : (env.scope.kind == .class || (env.scope.kind == .module && env.locals != env.globals)) = false)
    (h : wpAny (model prog w) A (eval iter env) (fun v s₁ => Stop (CompSrc prog w A h₀ L m env elt x scope cl (fun s₂ => FinA h₀ L m s₂ y Q) v s₁)) E s)
    (hs : ∀ x, foldedSetIterable iter env x = pure x := by intro _; rfl) :
    wpAny (model prog w) A (exec (.Assign [.Name y py] (.ListComp elt [⟨.Name x px, iter, [], 0⟩] scope pos) spos) env) Q E s := Assign_ListComp_U F₀ hLe hsw hclos hcell hkind hnames hx hy hp h hs

theorem off3_allNe {I C D : Addr} {l : List (Addr × Obj)} (h : Off3 I C D l) : AllNe I l ∧ AllNe C l ∧ AllNe D l :=
  ⟨allNe_of fun p hp => (h.mem p hp).1, allNe_of fun p hp => (h.mem p hp).2.1, allNe_of fun p hp => (h.mem p hp).2.2⟩
theorem off1_allNe {D : Addr} {l : List (Addr × Obj)} (h : Off1 D l) : AllNe D l := by
  induction l with
  | nil => trivial
  | cons p r ih => exact ⟨h.1, ih h.2⟩
theorem off3_append {I C D : Addr} {a b : List (Addr × Obj)} (ha : Off3 I C D a) (hb : Off3 I C D b) : Off3 I C D (a ++ b) := by
  induction a with
  | nil => exact hb
  | cons p r ih => exact ⟨ha.1, ih ha.2⟩
end
section
variable {prog : Program} {w : World} {A : Around} {E : Value → Shared → Prop} {s : Shared} {h₀ : Heap} {L D b : Addr} {m : Str → Option Value} {news : List (Addr × Obj)}
theorem extendK {ys zs : List Value} {n n2 : Nat} {upd : Obj → List (Addr × Obj)} {Q : Value → Shared → Prop} (F : Fr h₀ L s.heap m) (N : News h₀ L s.heap news) (hb : (b, listOf zs.toArray n2) ∈ news) (U : UpdF D (listOf ys.toArray n) news upd) (hsz : ys.length + zs.length ≤ sizeLine)
    (h : ∀ h' n', Fr h₀ L h' m → News h₀ L h' (upd (listOf (ys ++ zs).toArray n')) → Q .none { s with heap := h' }) : wpAny (model prog w) A (call (.builtin "list.extend") [.ref D, .ref b]) Q E s := by
  obtain ⟨pre, post, rfl, hg, h1, h2⟩ := U.split
  refine extend_in (its2 := zs.toArray) (n2 := n2) F N h1 h2 (N.get hb) (fun h' n' F' N' => h h' n' F' (by rw [hg]; simpa using N')) ?_
  rw [List.size_toArray]; exact hsz
end
end Mine
namespace Mine
noncomputable def putI (k v : Int) (l : List (Int × Int)) : List (Int × Int) := if l.any (fun p => decide (p.1 = k)) then l.map (fun p => if p.1 = k then (p.1, v) else p) else l ++ [(k, v)]
noncomputable abbrev encQ (q : Int × Int) : PyData × PyData := (PyData.int q.1, PyData.int q.2)
noncomputable def encD (l : List (Int × Int)) : List (PyData × PyData) := l.map encQ
theorem putD_enc (k v : Int) (l : List (Int × Int)) : putD (.int k) (.int v) (encD l) = encD (putI k v l) := by
  unfold putD putI encD
  have e1 : (l.map encQ).any (fun p => same p.1 (.int k)) = l.any (fun p => decide (p.1 = k)) := by
    rw [List.any_map]
    congr 1
  rw [e1]
  split
  · rw [List.map_map, List.map_map]
    congr 1
    funext p
    show (if same (PyData.int p.1) (.int k) = true then _ else _) = _
    rw [same_int]
    by_cases h : p.1 = k <;> simp [h]
  · simp
theorem lookup_enc (k : Int) (l : List (Int × Int)) : Spec.lookup (.int k) (encD l) = (l.lookup k).map PyData.int := by
  unfold encD
  induction l with
  | nil => rfl
  | cons p r ih =>
    rw [List.map_cons, List.lookup_cons]
    show (if same (PyData.int p.1) (.int k) = true then some (PyData.int p.2) else Spec.lookup _ _) = _
    rw [same_int, ih]
    by_cases h : p.1 = k
    · simp [h]
    · have : (k == p.1) = false := by simpa using Ne.symm h
      simp [h, this]
theorem putI_length (k v : Int) (l : List (Int × Int)) : (putI k v l).length ≤ l.length + 1 := by
  unfold putI
  split
  · rw [List.length_map]; omega
  · rw [List.length_append]; simp

/-- a dict whose keys and values are ints -/
def IsI (prog : Program) (w : World) (o : Obj) (l : List (Int × Int)) : Prop := ∃ kvs, o.IsDictOf (intKind prog w) kvs ∧ FlatPairs PyData.int kvs (encD l)

section
variable {prog : Program} {w : World} {A : Around} {E : Value → Shared → Prop} {s : Shared} {h₀ : Heap} {L d : Addr} {m : Str → Option Value} {news : List (Addr × Obj)} {o : Obj} {l : List (Int × Int)}
theorem IsI.tab (h : IsI prog w o l) (N : News h₀ L s.heap news) (hm : (d, o) ∈ news) (lo : (d == sysModules) = false) : TabAt (intKind prog w) PyData.int s.heap d (encD l) :=
  let ⟨_, a, b⟩ := h; TabAt.ofNews N hm lo a b
theorem newI {env : Env} {pos : Pos} {Q : Value → Shared → Prop} (F : Fr h₀ L s.heap m) (N : News h₀ L s.heap news) (hbig : h₀.NoLimit)
    (k : ∀ d h' o, Fr h₀ L h' m → News h₀ L h' ((d, o) :: news) → (∀ p ∈ news, p.1 < d) → (d == sysModules) = false → IsI prog w o [] → Q (.ref d) { s with heap := h' }) : wpAny (model prog w) A (eval (.Dict [] [] pos) env) Q E s :=
  newDict_K F N hbig fun d h' o F' N' l lo _ _ a b => k d h' o F' N' l lo ⟨_, a, b⟩
theorem setI {g : Obj → List (Addr × Obj)} {k v : Int} {t u : Tok} {Q : Unit → Shared → Prop} (F : Fr h₀ L s.heap m) (N : News h₀ L s.heap news) (U : UpdF d o news g) (hd : IsI prog w o l) (hz : l.length ≤ 100000)
    (h : ∀ h' o', Fr h₀ L h' m → News h₀ L h' (g o') → IsI prog w o' (putI k v l) → Q () { s with heap := h', toks := s.toks + 1 }) : wpAny (model prog w) A (setItem (.ref d) (.int k t) (.int v u)) Q E s := by
  obtain ⟨kvs, a, b⟩ := hd
  refine setItem_K same_int (intKind_is _ _ _ _) (Flat.int v u) F N U a b (fun h' o' F' N' a' b' => h h' o' F' N' ⟨_, a', by rw [← putD_enc]; exact b'⟩) ?_
  unfold encD
  rw [List.length_map, sizeLine_eq]; omega
theorem getI {k x : Int} {t u : Tok} {Q : Value → Shared → Prop} (N : News h₀ L s.heap news) (hm : (d, o) ∈ news) (lo : (d == sysModules) = false) (hd : IsI prog w o l)
    (h : ∀ t', Q (.int ((l.lookup k).getD x) t') { s with toks := s.toks + 1 }) : wpAny (model prog w) A (call (.builtin "dict.get") [.ref d, .int k t, .int x u]) Q E s := by
  refine call_get2_intTab (hd.tab N hm lo) (Flat.int x u) fun v hv => ?_
  rw [lookup_enc] at hv
  have e : (Option.map PyData.int (l.lookup k)).getD (PyData.int x) = PyData.int ((l.lookup k).getD x) := by cases l.lookup k <;> rfl
  rw [e] at hv
  obtain ⟨t', rfl⟩ := Flat.int_inv hv
  exact h t'
theorem getMethodI {Q : Value × List Value → Shared → Prop} {pl : Sem Bool} (N : News h₀ L s.heap news) (hm : (d, o) ∈ news) (lo : (d == sysModules) = false) (hd : IsI prog w o l)
    (h : Q (.builtin "dict.get", [.ref d]) s) : wpAny (model prog w) A (getMethod (.ref d) (Str.ofString "get") pl) Q E s := getMethod_intTab_get (hd.tab N hm lo) h
theorem lenI {Q : Value → Shared → Prop} (N : News h₀ L s.heap news) (hm : (d, o) ∈ news) (lo : (d == sysModules) = false) (hd : IsI prog w o l) (hz : l.length ≤ 100000)
    (h : Q (.int l.length (s.toks + 1)) { s with toks := s.toks + 1 + 1 }) : wpAny (model prog w) A (call (.builtin "len") [.ref d]) Q E s := by
  have e : (encD l).length = l.length := by unfold encD; rw [List.length_map]
  exact len_tab (hd.tab N hm lo) (by rw [e]; omega) (by rw [e]; exact h)
theorem inI {k : Int} {t : Tok} {Q : Value → Shared → Prop} (N : News h₀ L s.heap news) (hm : (d, o) ∈ news) (lo : (d == sysModules) = false) (hd : IsI prog w o l)
    (h : Q (.bool (l.lookup k).isSome) { s with toks := s.toks + 1 }) : wpAny (model prog w) A (compareOp .In (.int k t) (.ref d)) Q E s := by
  refine in_intTab (hd.tab N hm lo) ?_
  rw [lookup_enc]
  have e : (Option.map PyData.int (l.lookup k)).isSome = (l.lookup k).isSome := by cases l.lookup k <;> rfl
  rw [e]; exact h
theorem itemI {k : Int} {t : Tok} {x : Int} {Q : Value → Shared → Prop} (N : News h₀ L s.heap news) (hm : (d, o) ∈ news) (lo : (d == sysModules) = false) (hd : IsI prog w o l) (hk : l.lookup k = some x)
    (h : ∀ t', Q (.int x t') { s with toks := s.toks + 1 }) : wpAny (model prog w) A (getItem (.ref d) (.int k t)) Q E s := by
  refine getItem_tab (dv := PyData.int x) same_int (intKind_is _ _ _ _) (hd.tab N hm lo) (by rw [lookup_enc, hk]; rfl) fun v hv => ?_
  obtain ⟨t', rfl⟩ := Flat.int_inv hv
  exact h t'
theorem tailI {value slice : PySem.Expr} {k : Int} {t : Tok} {x : Int} {Q : Value → Shared → Prop} (N : News h₀ L s.heap news) (hm : (d, o) ∈ news) (lo : (d == sysModules) = false) (hd : IsI prog w o l) (hk : l.lookup k = some x)
    (h : ∀ t', Q (.int x t') { s with toks := s.toks + 1 })
    (hs : subscripted slice false (.ref d) (.int k t) = operate [.ref d, .int k t] (getItem (.ref d) (.int k t))) : wpAny (model prog w) A (subscriptTail value slice (.ref d) (.int k t)) Q E s :=
  tab_tail (hd.tab N hm lo) (itemI N hm lo hd hk h) hs
end
end Mine
namespace Mine
section
variable {prog : Program} {w : World} {p : Program} {loose : List Str} {mean : ExcName → Option Value} {mg mb : Str → Option Value}
  {dp un : Nat} {gd : Option (List Code)} {cn : Str} {cs : Scope} {a : Addr} {ccd : Value} {cl : List (Str × Addr)} {outer : List Env} {A₀ : Around} {base h₀ : Heap} {L : Addr} {m : Str → Option Value} {news : List (Addr × Obj)} {s : Shared} {Q E : Value → Shared → Prop}
/-- enter a def of the text, told what the ground keeps -/
theorem say_C1 : True := by
  k_with_none
  k_with "room9" => (first | exact roomL 0 (by assumption) rfl | exact roomL 1 (by assumption) rfl | exact roomL 2 (by assumption) rfl | exact roomL 3 (by assumption) rfl | exact roomL 4 (by assumption) rfl | exact roomL 5 (by assumption) rfl | exact roomL 6 (by assumption) rfl | exact roomL 7 (by assumption) rfl | exact roomL 8 (by assumption) rfl | exact roomL 9 (by assumption) rfl | exact roomL 10 (by assumption) rfl | exact roomL 11 (by assumption) rfl | exact roomL 12 (by assumption) rfl | exact roomL 13 (by assumption) rfl | exact roomE 0 (by assumption) rfl | exact roomE 1 (by assumption) rfl | exact roomE 2 (by assumption) rfl | exact roomE 3 (by assumption) rfl | exact roomE 4 (by assumption) rfl)
  k_with "k_room" => (first | k_extra "room9" | ktr_room)
  k_with "and9" => (((repeat (with_reducible rename (_ ∧ _) => l8; first | exact l8.1 | exact Ne.symm l8.1 | exact Nat.ne_of_lt l8.1 | exact Nat.ne_of_gt l8.1 | exact Nat.ne_of_gt (Nat.lt_trans l8.1 (by assumption)) | exact Nat.ne_of_lt (Nat.lt_trans l8.1 (by assumption)) | (replace l8 := l8.2; first | exact l8 | exact Ne.symm l8 | exact Nat.ne_of_lt l8 | exact Nat.ne_of_gt l8 | skip))); done))
  k_with "k_ne" => ((refine neN ?_; (try dsimp only); first | assumption | exact Ne.symm (by assumption) | exact Nat.ne_of_lt (by assumption) | exact Nat.ne_of_gt (by assumption) | k_extra "and9" | omega))
  trivial

set_option maxRecDepth 100000 in
set_option maxHeartbeats 8000000 in
theorem draw_spec {P C : Addr} {vs : List Value} {xs : List Int} {nc np : Nat} {g st pl most : Int} {t1 t2 t3 tm : Tok}
    (B : Below A₀ base outer h₀) (F : Fr h₀ L s.heap m) (X : (Mine.hd.heap_39 w.params).In h₀)
    (N : News h₀ L s.heap [(P, listOf #[.ref C, .int g t1, .int st t2, .int pl t3] np), (C, listOf vs.toArray nc)])
    (T : Top p loose mean mg mb h₀) (hk : cs.kind = .function)
    (hPC : @Ne Nat P C) (hi : IntsAre vs xs) (hlen : xs.length ≤ 63)
    (h0 : 0 ≤ pl) (h1 : pl ≤ 1000) (hst : 0 ≤ st) (hst2 : st < 2147483647) (hm : 0 < most) (hm2 : most ≤ 100)
    (hdp : dp + 1 < recursionLimit)
    (hret : ∀ (d : Int) td g' u1 st' u2 u3 h' tk', GSub s.heap h' [P] → h'.get? P = some (listOf #[.ref C, .int g' u1, .int st' u2, .int (pl + 1) u3] np) →
      0 ≤ d → d < most → 0 ≤ st' → st' < 2147483647 → Q (.int d td) { s with heap := h', toks := tk' }) :
    wpAny (model prog w) (ktrTop dp un gd cn cs L a ccd cl outer) (call (.ref 210) [.ref P, .int most tm]) Q E s := by
  refine wpAny_call ?_
  refine' code_defG ?k1 ?k2 ?k3 ?k4 ?k5 ?kA ?kF ?kK ?k6 ?k7 ?k8 ?k9 ?kB ?_ ?c2 ?c3 ?c4 ?c5
  (case kA => exact rfl); (case kF => exact rfl); (case kK => assumption)
  (case k1 => k_asm); (case k2 => k_asm); (case k3 => k_asm); (case k4 => k_asm); (case k5 => k_asm); (case k6 => k_is); (case k7 => k_is); (case k8 => k_room)
  (case k9 => exact BindsTo.of_eq rfl); (case c5 => decide); (case kB => exact locs rfl); (case c2 => exact rfl); (case c3 => exact rfl); (case c4 => exact rfl)
  intro g' L' h' FG' F' N' B' X' T' kG'
  (try dsimp only); (try k_fold)
  k_steps
  all_goals (
    rename (Fr g' L' _ _) => F9
    rename (News g' L' _ _) => N9
    have G9 := gsub_less (gsub_swap (gsub_fr kG' F9)) (N.get (.tail _ (.head _))) (N9.get (.tail _ (.head _)))
    have P9 := N9.get (.head _))
  · exact hret _ _ _ _ _ _ _ _ _ G9 P9 (Int.fmod_nonneg_of_pos _ hm) (Int.fmod_lt_of_pos _ hm) hst hst2
  · exact hret _ _ _ _ _ _ _ _ _ G9 P9 (Int.fmod_nonneg_of_pos _ hm) (Int.fmod_lt_of_pos _ hm) (Int.fmod_nonneg_of_pos _ (by decide)) (Int.fmod_lt_of_pos _ (by decide))
  · exact hret _ _ _ _ _ _ _ _ _ G9 P9 (Int.fmod_nonneg_of_pos _ hm) (Int.fmod_lt_of_pos _ hm) (Int.fmod_nonneg_of_pos _ (by decide)) (Int.fmod_lt_of_pos _ (by decide))

/-- the draw at a call's place: the pool is of the ledger -/
theorem draw_K {P C : Addr} {vs : List Value} {xs : List Int} {nc np : Nat} {g st pl most : Int} {t1 t2 t3 tm : Tok} {upd : Obj → List (Addr × Obj)}
    (B : Below A₀ base outer h₀) (F : Fr h₀ L s.heap m) (X : (Mine.hd.heap_39 w.params).In h₀) (N : News h₀ L s.heap news)
    (T : Top p loose mean mg mb h₀) (hk : cs.kind = .function)
    (U : UpdF P (listOf #[.ref C, .int g t1, .int st t2, .int pl t3] np) news upd) (hC : (C, listOf vs.toArray nc) ∈ news)
    (hPC : @Ne Nat P C) (hi : IntsAre vs xs) (hlen : xs.length ≤ 63)
    (h0 : 0 ≤ pl) (h1 : pl ≤ 1000) (hst : 0 ≤ st) (hst2 : st < 2147483647) (hm : 0 < most) (hm2 : most ≤ 100)
    (hdp : dp + 1 < recursionLimit)
    (hret : ∀ (d : Int) td g' u1 st' u2 u3 h' tk', Fr h₀ L h' m → News h₀ L h' (upd (listOf #[.ref C, .int g' u1, .int st' u2, .int (pl + 1) u3] np)) →
      0 ≤ d → d < most → 0 ≤ st' → st' < 2147483647 → Q (.int d td) { s with heap := h', toks := tk' }) :
    wpAny (model prog w) (ktrTop dp un gd cn cs L a ccd cl outer) (call (.ref 210) [.ref P, .int most tm]) Q E s := by
  obtain ⟨pre, post, e, _, _, _⟩ := U.split
  have hP : (P, listOf #[.ref C, .int g t1, .int st t2, .int pl t3] np) ∈ news := e ▸ List.mem_append.mpr (.inr (.head _))
  have N1 : News h₀ L s.heap [(P, listOf #[.ref C, .int g t1, .int st t2, .int pl t3] np), (C, listOf vs.toArray nc)] := by
    intro q hq
    rcases List.mem_cons.mp hq with e | hq
    · rw [e]; exact N _ hP
    · rw [List.mem_singleton.mp hq]; exact N _ hC
  refine draw_spec B F X N1 T hk hPC hi hlen h0 h1 hst hst2 hm hm2 hdp ?_
  · intro d td g' u1 st' u2 u3 h' tk' G hp' a1 a2 a3 a4
    obtain ⟨F', N'⟩ := upd_after F N U G hp'
    exact hret d td g' u1 st' u2 u3 h' tk' F' N' a1 a2 a3 a4
end
end Mine
namespace Mine
section
variable {prog : Program} {w : World} {p : Program} {loose : List Str} {mean : ExcName → Option Value} {mg mb : Str → Option Value}
  {dp un : Nat} {gd : Option (List Code)} {cn : Str} {cs : Scope} {a : Addr} {ccd : Value} {cl : List (Str × Addr)} {outer : List Env} {A₀ : Around} {base h₀ : Heap} {L : Addr} {m : Str → Option Value} {news : List (Addr × Obj)} {s : Shared} {Q E : Value → Shared → Prop}
theorem say_C2 : True := by
  k_with_none
  k_with "room9" => (first | exact roomL 0 (by assumption) rfl | exact roomL 1 (by assumption) rfl | exact roomL 2 (by assumption) rfl | exact roomL 3 (by assumption) rfl | exact roomL 4 (by assumption) rfl | exact roomL 5 (by assumption) rfl | exact roomL 6 (by assumption) rfl | exact roomL 7 (by assumption) rfl | exact roomL 8 (by assumption) rfl | exact roomL 9 (by assumption) rfl | exact roomL 10 (by assumption) rfl | exact roomL 11 (by assumption) rfl | exact roomL 12 (by assumption) rfl | exact roomL 13 (by assumption) rfl | exact roomE 0 (by assumption) rfl | exact roomE 1 (by assumption) rfl | exact roomE 2 (by assumption) rfl | exact roomE 3 (by assumption) rfl | exact roomE 4 (by assumption) rfl)
  k_with "k_room" => (first | k_extra "room9" | ktr_room)
  k_with "and9" => (((repeat (with_reducible rename (_ ∧ _) => l8; first | exact l8.1 | exact Ne.symm l8.1 | exact Nat.ne_of_lt l8.1 | exact Nat.ne_of_gt l8.1 | exact Nat.ne_of_gt (Nat.lt_trans l8.1 (by assumption)) | exact Nat.ne_of_lt (Nat.lt_trans l8.1 (by assumption)) | (replace l8 := l8.2; first | exact l8 | exact Ne.symm l8 | exact Nat.ne_of_lt l8 | exact Nat.ne_of_gt l8 | skip))); done))
  k_with "k_ne" => ((refine neN ?_; (try dsimp only); first | assumption | exact Ne.symm (by assumption) | exact Nat.ne_of_lt (by assumption) | exact Nat.ne_of_gt (by assumption) | k_extra "and9" | omega))
  trivial

theorem box_state (l : List Int) : 0 ≤ List.foldl (fun a' n' : Int => (a' * 48271 + n'.fmod 2147483647 + 11).fmod 2147483647) 7 l ∧ List.foldl (fun a' n' : Int => (a' * 48271 + n'.fmod 2147483647 + 11).fmod 2147483647) 7 l < 2147483647 :=
  foldl_in (fun _ _ => ⟨Int.fmod_nonneg_of_pos _ (by decide), Int.fmod_lt_of_pos _ (by decide)⟩) l 7 (by decide) (by decide)

set_option maxRecDepth 100000 in
set_option maxHeartbeats 8000000 in
theorem box_spec {l : Addr} {vs : List Value} {ns : List Int}
    (B : Below A₀ base outer h₀) (F : Fr h₀ L s.heap m) (X : (Mine.hd.heap_39 w.params).In h₀)
    (T : Top p loose mean mg mb h₀) (hk : cs.kind = .function)
    (hl : base.IsList l vs.toArray) (hi : IntsAre vs ns) (hlen : ns.length ≤ 63)
    (hdp : dp + 4 < recursionLimit)
    (hret : ∀ x c ws xs nc g t1 st t2 t3 h' tk', GSub s.heap h' [] → s.heap.get? x = none → s.heap.get? c = none → @Ne Nat x c →
      h'.get? x = some (listOf #[.ref c, .int g t1, .int st t2, .int 0 t3] 0) → h'.get? c = some (listOf ws.toArray nc) → IntsAre ws xs → xs.length ≤ 63 →
      0 ≤ st → st < 2147483647 → Q (.ref x) { s with heap := h', toks := tk' }) :
    wpAny (model prog w) (ktrTop dp un gd cn cs L a ccd cl outer) (call (.ref 203) [.ref l]) Q E s := by
  have N : News h₀ L s.heap [] := News.nil
  refine wpAny_call ?_
  refine' code_defG ?k1 ?k2 ?k3 ?k4 ?k5 ?kA ?kF ?kK ?k6 ?k7 ?k8 ?k9 ?kB ?_ ?c2 ?c3 ?c4 ?c5
  (case kA => exact rfl); (case kF => exact rfl); (case kK => assumption)
  (case k1 => k_asm); (case k2 => k_asm); (case k3 => k_asm); (case k4 => k_asm); (case k5 => k_asm); (case k6 => k_is); (case k7 => k_is); (case k8 => k_room)
  (case k9 => exact BindsTo.of_eq rfl); (case c5 => decide); (case kB => exact locs rfl); (case c2 => exact rfl); (case c3 => exact rfl); (case c4 => exact rfl)
  intro g' L' h' FG' F' N' B' X' T' kG'
  (try dsimp only); (try k_lift B'); (try k_fold)
  k_steps
  all_goals (
    rename (Fr g' _ _ _) => F9
    rename (News g' _ _ _) => N9
    rename ((_ : Nat) < _ ∧ _) => l9
    rename (IntsAre _ (List.map _ _)) => i9
    have G9 := gsub_fr kG' F9
    have z1 := fresh_of kG' N9 (.head _) (fun h => nomatch h)
    have z2 := fresh_of kG' N9 (.tail _ (.head _)) (fun h => nomatch h)
    have b9 := box_state (List.map (fun k' => k') (List.take 40 ns))
    refine hret _ _ _ _ _ _ _ _ _ _ _ _ G9 z1 z2 ?_ (N9.get (.head _)) (N9.get (.tail _ (.head _))) i9 ?_ b9.1 b9.2
    · exact Nat.ne_of_gt l9.1
    · simp only [List.length_map, List.length_take]; omega)
theorem box_K {l : Addr} {vs : List Value} {ns : List Int}
    (B : Below A₀ base outer h₀) (F : Fr h₀ L s.heap m) (X : (Mine.hd.heap_39 w.params).In h₀) (N : News h₀ L s.heap news)
    (T : Top p loose mean mg mb h₀) (hk : cs.kind = .function)
    (hl : base.IsList l vs.toArray) (hi : IntsAre vs ns) (hlen : ns.length ≤ 63)
    (hdp : dp + 4 < recursionLimit)
    (hret : ∀ x c ws xs nc g t1 st t2 t3 h' tk', Fr h₀ L h' m → News h₀ L h' ((x, listOf #[.ref c, .int g t1, .int st t2, .int 0 t3] 0) :: (c, listOf ws.toArray nc) :: news) → AllNe x news → AllNe c news → @Ne Nat x c →
      IntsAre ws xs → xs.length ≤ 63 → 0 ≤ st → st < 2147483647 → Q (.ref x) { s with heap := h', toks := tk' }) :
    wpAny (model prog w) (ktrTop dp un gd cn cs L a ccd cl outer) (call (.ref 203) [.ref l]) Q E s := by
  refine box_spec B F X T hk hl hi hlen hdp ?_
  intro x c ws xs nc g t1 st t2 t3 h' tk' G z1 z2 hne e1 e2 i1 i2 i3 i4
  obtain ⟨F', N'⟩ := add_after (add := [(x, _), (c, _)]) F N G (fun q hq => by
    rcases List.mem_cons.mp hq with e | hq
    · rw [e]; exact ⟨z1, e1⟩
    · rw [List.mem_singleton.mp hq]; exact ⟨z2, e2⟩)
  exact hret x c ws xs nc g t1 st t2 t3 h' tk' F' N' (allNe_fresh N z1) (allNe_fresh N z2) hne i1 i2 i3 i4
end
end Mine
namespace Mine
section
variable {prog : Program} {w : World} {p : Program} {loose : List Str} {mean : ExcName → Option Value} {mg mb : Str → Option Value}
  {dp un : Nat} {gd : Option (List Code)} {cn : Str} {cs : Scope} {a : Addr} {ccd : Value} {cl : List (Str × Addr)} {outer : List Env} {A₀ : Around} {base h₀ : Heap} {L : Addr} {m : Str → Option Value} {news : List (Addr × Obj)} {s : Shared} {Q E : Value → Shared → Prop}
theorem say_C3 : True := by
  k_with_none
  k_with "room9" => (first | exact roomL 0 (by assumption) rfl | exact roomL 1 (by assumption) rfl | exact roomL 2 (by assumption) rfl | exact roomL 3 (by assumption) rfl | exact roomL 4 (by assumption) rfl | exact roomL 5 (by assumption) rfl | exact roomL 6 (by assumption) rfl | exact roomL 7 (by assumption) rfl | exact roomL 8 (by assumption) rfl | exact roomL 9 (by assumption) rfl | exact roomL 10 (by assumption) rfl | exact roomL 11 (by assumption) rfl | exact roomL 12 (by assumption) rfl | exact roomL 13 (by assumption) rfl | exact roomE 0 (by assumption) rfl | exact roomE 1 (by assumption) rfl | exact roomE 2 (by assumption) rfl | exact roomE 3 (by assumption) rfl | exact roomE 4 (by assumption) rfl)
  k_with "k_room" => (first | k_extra "room9" | ktr_room)
  k_with "and9" => (((repeat (with_reducible rename (_ ∧ _) => l8; first | exact l8.1 | exact Ne.symm l8.1 | exact Nat.ne_of_lt l8.1 | exact Nat.ne_of_gt l8.1 | exact Nat.ne_of_gt (Nat.lt_trans l8.1 (by assumption)) | exact Nat.ne_of_lt (Nat.lt_trans l8.1 (by assumption)) | (replace l8 := l8.2; first | exact l8 | exact Ne.symm l8 | exact Nat.ne_of_lt l8 | exact Nat.ne_of_gt l8 | skip))); done))
  k_with "k_ne" => ((refine neN ?_; (try dsimp only); first | assumption | exact Ne.symm (by assumption) | exact Nat.ne_of_lt (by assumption) | exact Nat.ne_of_gt (by assumption) | k_extra "and9" | omega))
  trivial
noncomputable def lonePs : List (Int × Int) := [(60, 62), (91, 93), (123, 125), (171, 187), (8712, 8715), (8713, 8716), (8714, 8717), (65124, 65125), (65308, 65310), (65339, 65341), (65371, 65373)]
noncomputable def sidePs : List (Int × Int) := [(40, 1), (8249, 1), (8261, 1), (8317, 1), (8333, 1), (8804, 4), (8814, 14), (8842, 1), (8847, 2), (8866, 1), (8905, 2), (8912, 1), (8918, 1), (8920, 4), (8928, 7), (8968, 2), (9001, 1), (10088, 7), (10214, 5), (10627, 5), (12296, 5), (12308, 4), (65113, 3), (65288, 1), (65375, 1), (65378, 1)]

set_option maxRecDepth 100000 in
set_option maxHeartbeats 8000000 in
theorem lone_spec (B : Below A₀ base outer h₀) (F : Fr h₀ L s.heap m) (X : (Mine.hd.heap_39 w.params).In h₀)
    (T : Top p loose mean mg mb h₀) (hk : cs.kind = .function) (hdp : dp + 4 < recursionLimit)
    (hret : ∀ x vs tl h' tk', NewPairs s.heap h' x vs 0 tl lonePs → Q (.ref x) { s with heap := h', toks := tk' }) :
    wpAny (model prog w) (ktrTop dp un gd cn cs L a ccd cl outer) (call (.ref 29) []) Q E s := by
  have N : News h₀ L s.heap [] := News.nil
  refine wpAny_call ?_
  refine' code_defG ?k1 ?k2 ?k3 ?k4 ?k5 ?kA ?kF ?kK ?k6 ?k7 ?k8 ?k9 ?kB ?_ ?c2 ?c3 ?c4 ?c5
  (case kA => exact rfl); (case kF => exact rfl); (case kK => assumption)
  (case k1 => k_asm); (case k2 => k_asm); (case k3 => k_asm); (case k4 => k_asm); (case k5 => k_asm); (case k6 => k_is); (case k7 => k_is); (case k8 => k_room)
  (case k9 => exact BindsTo.of_eq rfl); (case c5 => decide); (case kB => exact locs rfl); (case c2 => exact rfl); (case c3 => exact rfl); (case c4 => exact rfl)
  intro g' L' h' FG' F' N' B' X' T' kG'
  (try dsimp only); (try k_fold)
  walk1
  walk1
  walk1
  (with_reducible show wpAny _ _ (eval (PySem.Expr.List _ _) _) _ _ _)
  with_reducible (refine' pairs_List (ps := lonePs) ?e F' N' ?z ?_)
  (case e => with_unfolding_all (repeat constructor))
  (case z => decide)
  intro x vs tl h9 tk9 F9 N9 D9 ne9 al9
  k_steps
  exact hret x vs tl h9 tk9 (NewPairs.of kG' F9 N9 D9 al9)

set_option maxRecDepth 100000 in
set_option maxHeartbeats 8000000 in
theorem side_spec (B : Below A₀ base outer h₀) (F : Fr h₀ L s.heap m) (X : (Mine.hd.heap_39 w.params).In h₀)
    (T : Top p loose mean mg mb h₀) (hk : cs.kind = .function) (hdp : dp + 4 < recursionLimit)
    (hret : ∀ x vs tl h' tk', NewPairs s.heap h' x vs 0 tl sidePs → Q (.ref x) { s with heap := h', toks := tk' }) :
    wpAny (model prog w) (ktrTop dp un gd cn cs L a ccd cl outer) (call (.ref 36) []) Q E s := by
  have N : News h₀ L s.heap [] := News.nil
  refine wpAny_call ?_
  refine' code_defG ?k1 ?k2 ?k3 ?k4 ?k5 ?kA ?kF ?kK ?k6 ?k7 ?k8 ?k9 ?kB ?_ ?c2 ?c3 ?c4 ?c5
  (case kA => exact rfl); (case kF => exact rfl); (case kK => assumption)
  (case k1 => k_asm); (case k2 => k_asm); (case k3 => k_asm); (case k4 => k_asm); (case k5 => k_asm); (case k6 => k_is); (case k7 => k_is); (case k8 => k_room)
  (case k9 => exact BindsTo.of_eq rfl); (case c5 => decide); (case kB => exact locs rfl); (case c2 => exact rfl); (case c3 => exact rfl); (case c4 => exact rfl)
  intro g' L' h' FG' F' N' B' X' T' kG'
  (try dsimp only); (try k_fold)
  walk1
  walk1
  walk1
  (with_reducible show wpAny _ _ (eval (PySem.Expr.List _ _) _) _ _ _)
  with_reducible (refine' pairs_List (ps := sidePs) ?e F' N' ?z ?_)
  (case e => with_unfolding_all (repeat constructor))
  (case z => decide)
  intro x vs tl h9 tk9 F9 N9 D9 ne9 al9
  k_steps
  exact hret x vs tl h9 tk9 (NewPairs.of kG' F9 N9 D9 al9)

theorem NewPairs.at_call {x : Addr} {vs : List Value} {n : Nat} {tl : List (Addr × Obj)} {ps : List (Int × Int)} {h' : Heap} (P : NewPairs s.heap h' x vs n tl ps) (F : Fr h₀ L s.heap m) (N : News h₀ L s.heap news) :
    Fr h₀ L h' m ∧ News h₀ L h' ((x, listOf vs.toArray n) :: (news ++ tl)) ∧ AllNe x (news ++ tl) ∧ OffAll tl news ∧ DatAll tl vs (ps.map pairDat) := by
  obtain ⟨a, b, c, d⟩ := P.after F N
  refine ⟨a, fun p hp => b p ?_, allNe_append c.right c.left, offAll_of fun q hq => allNe_of fun p hp => d q hq p hp, P.dat⟩
  rcases List.mem_cons.mp hp with rfl | hp
  · exact .head _
  · rcases List.mem_append.mp hp with hp | hp
    · exact .tail _ (List.mem_append.mpr (.inr hp))
    · exact .tail _ (List.mem_append.mpr (.inl hp))

theorem lone_K (B : Below A₀ base outer h₀) (F : Fr h₀ L s.heap m) (X : (Mine.hd.heap_39 w.params).In h₀) (N : News h₀ L s.heap news)
    (T : Top p loose mean mg mb h₀) (hk : cs.kind = .function) (hdp : dp + 4 < recursionLimit)
    (hret : ∀ x vs tl h' tk', Fr h₀ L h' m → News h₀ L h' ((x, listOf vs.toArray 0) :: (news ++ tl)) → AllNe x (news ++ tl) → OffAll tl news → DatAll tl vs (lonePs.map pairDat) → Q (.ref x) { s with heap := h', toks := tk' }) :
    wpAny (model prog w) (ktrTop dp un gd cn cs L a ccd cl outer) (call (.ref 29) []) Q E s :=
  lone_spec B F X T hk hdp fun x vs tl h' tk' P => let ⟨a, b, c, d, e⟩ := P.at_call F N; hret x vs tl h' tk' a b c d e
theorem side_K (B : Below A₀ base outer h₀) (F : Fr h₀ L s.heap m) (X : (Mine.hd.heap_39 w.params).In h₀) (N : News h₀ L s.heap news)
    (T : Top p loose mean mg mb h₀) (hk : cs.kind = .function) (hdp : dp + 4 < recursionLimit)
    (hret : ∀ x vs tl h' tk', Fr h₀ L h' m → News h₀ L h' ((x, listOf vs.toArray 0) :: (news ++ tl)) → AllNe x (news ++ tl) → OffAll tl news → DatAll tl vs (sidePs.map pairDat) → Q (.ref x) { s with heap := h', toks := tk' }) :
    wpAny (model prog w) (ktrTop dp un gd cn cs L a ccd cl outer) (call (.ref 36) []) Q E s :=
  side_spec B F X T hk hdp fun x vs tl h' tk' P => let ⟨a, b, c, d, e⟩ := P.at_call F N; hret x vs tl h' tk' a b c d e
end
end Mine
namespace Mine
section
variable {prog : Program} {w : World} {p : Program} {loose : List Str} {mean : ExcName → Option Value} {mg mb : Str → Option Value}
  {dp un : Nat} {gd : Option (List Code)} {cn : Str} {cs : Scope} {a : Addr} {ccd : Value} {cl : List (Str × Addr)} {outer : List Env} {A₀ : Around} {base h₀ : Heap} {L : Addr} {m : Str → Option Value} {news : List (Addr × Obj)} {s : Shared} {Q E : Value → Shared → Prop}
theorem say_C4 : True := by
  k_with_none
  k_with "room9" => (first | exact roomL 0 (by assumption) rfl | exact roomL 1 (by assumption) rfl | exact roomL 2 (by assumption) rfl | exact roomL 3 (by assumption) rfl | exact roomL 4 (by assumption) rfl | exact roomL 5 (by assumption) rfl | exact roomL 6 (by assumption) rfl | exact roomL 7 (by assumption) rfl | exact roomL 8 (by assumption) rfl | exact roomL 9 (by assumption) rfl | exact roomL 10 (by assumption) rfl | exact roomL 11 (by assumption) rfl | exact roomL 12 (by assumption) rfl | exact roomL 13 (by assumption) rfl | exact roomE 0 (by assumption) rfl | exact roomE 1 (by assumption) rfl | exact roomE 2 (by assumption) rfl | exact roomE 3 (by assumption) rfl | exact roomE 4 (by assumption) rfl)
  k_with "k_room" => (first | k_extra "room9" | ktr_room)
  k_with "and9" => (((repeat (with_reducible rename (_ ∧ _) => l8; first | exact l8.1 | exact Ne.symm l8.1 | exact Nat.ne_of_lt l8.1 | exact Nat.ne_of_gt l8.1 | exact Nat.ne_of_gt (Nat.lt_trans l8.1 (by assumption)) | exact Nat.ne_of_lt (Nat.lt_trans l8.1 (by assumption)) | (replace l8 := l8.2; first | exact l8 | exact Ne.symm l8 | exact Nat.ne_of_lt l8 | exact Nat.ne_of_gt l8 | skip))); done))
  k_with "k_ne" => ((refine neN ?_; (try dsimp only); first | assumption | exact Ne.symm (by assumption) | exact Nat.ne_of_lt (by assumption) | exact Nat.ne_of_gt (by assumption) | k_extra "and9" | omega))
  k_with "k_all" => (exact AllNe.ne (by assumption))
  k_with "call ref" => ((k_here; (with_reducible show wpAny _ _ (call (Value.ref 29) _ _) _ _ _); k_dflt (refine' lone_K ?k1 ?k2 ?k3 ?k4 ?k5 ?kK ?kd ?_; (case kK => first | exact rfl | assumption); (case k1 => k_asm); (case k2 => k_asm); (case k3 => k_asm); (case k4 => k_asm); (case k5 => k_asm); (case kd => k_room); k_whole); intro _ _ _ _ _ _ N9 al9 ne9 _; (simp only [List.cons_append, List.nil_append, AllNe, OffAll, and_true] at N9 al9 ne9); (try dsimp only)))
  k_with "call ref" => ((k_here; (with_reducible show wpAny _ _ (call (Value.ref 36) _ _) _ _ _); k_dflt (refine' side_K ?k1 ?k2 ?k3 ?k4 ?k5 ?kK ?kd ?_; (case kK => first | exact rfl | assumption); (case k1 => k_asm); (case k2 => k_asm); (case k3 => k_asm); (case k4 => k_asm); (case k5 => k_asm); (case kd => k_room); k_whole); intro _ _ _ _ _ _ N9 al9 ne9 _; (simp only [List.cons_append, List.nil_append, AllNe, OffAll, and_true] at N9 al9 ne9); (try dsimp only)))
  trivial

theorem say_C41 : True := by
  k_with "eval ListComp" => ((k_here; k_dflt (refine Mine.ListComp_stop (F₀ := by k_asm) (by with_unfolding_all rfl) (by decide) (by rfl) (by decide) (by rfl) ?_)))
  trivial
noncomputable def runN (a : Int) (n : Nat) : List (Int × Int) := (List.range n).map fun k : Nat => (a + 2 * (k : Int), a + 2 * (k : Int) + 1)
theorem runN_succ (a : Int) (n : Nat) : runN a (n + 1) = runN a n ++ [(a + 2 * (n : Int), a + 2 * (n : Int) + 1)] := by simp [runN, List.range_succ]
noncomputable def runPs (a c : Int) : List (Int × Int) := runN a c.toNat
theorem runN_length (a : Int) (n : Nat) : (runN a n).length = n := by simp [runN]
noncomputable def sofar (i : Nat) : List (Int × Int) := lonePs ++ (sidePs.take i).flatMap fun q => runPs q.1 q.2
theorem sofar_zero : sofar 0 = lonePs := by simp [sofar]
theorem sofar_succ {i : Nat} {q : Int × Int} (h : sidePs[i]? = some q) : sofar (i + 1) = sofar i ++ runPs q.1 q.2 := by
  unfold sofar
  rw [List.take_add_one, h]
  simp
theorem side_bound : ∀ q ∈ sidePs, 0 ≤ q.1 ∧ q.1 ≤ 65378 ∧ 1 ≤ q.2 ∧ q.2 ≤ 14 := by decide

noncomputable abbrev mirPs : List (Int × Int) := sofar 26
structure MJ (S X CC : Addr) (vsS : List Value) (i : Nat) (m : Str → Option Value) (nw : List (Addr × Obj)) (vf : List Value) (nf : Nat) (oc : Obj) (v₀ : Option Value) (tl : List (Addr × Obj)) : Prop where
  led : nw = (S, listOf vsS.toArray 0) :: (X, listOf vf.toArray nf) :: (CC, oc) :: tl
  fnd : m (Str.ofString "found") = some (.ref X)
  cel : oc.data = .cell v₀
  neX : AllNe X tl
  neC : AllNe CC tl
  dat : DatAll tl vf ((sofar i).map pairDat)
  src : DatAll tl vsS (sidePs.map pairDat)
  len : vf.length ≤ 11 + 14 * i
/-- the same, what it speaks of hidden -/
inductive MJE (S X CC : Addr) (vsS : List Value) (i : Nat) (m : Str → Option Value) (nw : List (Addr × Obj)) : Prop
  | mk (vf : List Value) (nf : Nat) (oc : Obj) (v₀ : Option Value) (tl : List (Addr × Obj)) (j : MJ S X CC vsS i m nw vf nf oc v₀ tl) : MJE S X CC vsS i m nw

theorem sz27 {a b i : Nat} {x c : Int} (len : a ≤ 11 + 14 * i) (hi : i ≤ 26) (l : b = c.toNat) (bq : 0 ≤ x ∧ x ≤ 65378 ∧ 1 ≤ c ∧ c ≤ 14) : a + b ≤ 16777216 := by omega
theorem sz28 {a b i : Nat} {x c : Int} (len : a ≤ 11 + 14 * i) (l : b = c.toNat) (bq : 0 ≤ x ∧ x ≤ 65378 ∧ 1 ≤ c ∧ c ≤ 14) : a + b ≤ 11 + 14 * (i + 1) := by omega
theorem datInt {tl : List (Addr × Obj)} {v : Value} {n : Int} (h : DatIn tl v (.int n)) : ∃ t, v = .int n t := by
  cases h; exact ⟨_, rfl⟩
theorem datCons {tl : List (Addr × Obj)} {vs : List Value} {d : Dat} {ds : List Dat} (h : DatAll tl vs (d :: ds)) : ∃ v r, vs = v :: r ∧ DatIn tl v d ∧ DatAll tl r ds := by
  cases h with | cons h1 h2 => exact ⟨_, _, rfl, h1, h2⟩
theorem datNil {tl : List (Addr × Obj)} {vs : List Value} (h : DatAll tl vs []) : vs = [] := by
  cases h; rfl
theorem datTup {tl : List (Addr × Obj)} {v : Value} {ds : List Dat} (h : DatIn tl v (.tuple ds)) : ∃ a vs n, v = .ref a ∧ (a, tupObj vs n) ∈ tl ∧ DatAll tl vs ds := by
  cases h with | tuple hm hd => exact ⟨_, _, _, rfl, hm, hd⟩
theorem pair_open {tl : List (Addr × Obj)} {v : Value} {q : Int × Int} (h : DatIn tl v (pairDat q)) : ∃ a t u n, v = .ref a ∧ (a, tupObj [.int q.1 t, .int q.2 u] n) ∈ tl := by
  obtain ⟨a, vs, n, e, hm, hd⟩ := datTup h
  obtain ⟨v1, r1, e1, h1, hd1⟩ := datCons hd
  obtain ⟨v2, r2, e2, h2, hd2⟩ := datCons hd1
  obtain ⟨t, e3⟩ := datInt h1
  obtain ⟨u, e4⟩ := datInt h2
  rw [e1, e2, e3, e4, datNil hd2] at hm
  exact ⟨a, t, u, n, e, hm⟩
theorem pairs_get {tl : List (Addr × Obj)} {vs : List Value} {ps : List (Int × Int)} {i : Nat} {v : Value} (h : DatAll tl vs (ps.map pairDat)) (hv : vs[i]? = some v) : ∃ q a t u n, ps[i]? = some q ∧ v = .ref a ∧ (a, tupObj [.int q.1 t, .int q.2 u] n) ∈ tl := by
  have hl := h.length
  rw [List.length_map] at hl
  have hlt : i < vs.length := by
    rcases Nat.lt_or_ge i vs.length with h | h
    · exact h
    · rw [List.getElem?_eq_none h] at hv; cases hv
  obtain ⟨v', e, d⟩ := h.get (k := i) (by rw [List.length_map, ← hl]; exact hlt)
  rw [hv] at e
  cases e
  rw [List.getElem_map] at d
  obtain ⟨a, t, u, n, e, hm⟩ := pair_open d
  exact ⟨_, a, t, u, n, List.getElem?_eq_getElem (hl ▸ hlt), e, hm⟩

set_option maxRecDepth 100000 in
set_option maxHeartbeats 8000000 in
theorem mpairs_spec (B : Below A₀ base outer h₀) (F : Fr h₀ L s.heap m) (X : (Mine.hd.heap_39 w.params).In h₀)
    (T : Top p loose mean mg mb h₀) (hk : cs.kind = .function) (hdp : dp + 6 < recursionLimit)
    (hret : ∀ x vs n tl h' tk', NewPairs s.heap h' x vs n tl mirPs → Q (.ref x) { s with heap := h', toks := tk' }) :
    wpAny (model prog w) (ktrTop dp un gd cn cs L a ccd cl outer) (call (.ref 41) []) Q E s := by
  have N : News h₀ L s.heap [] := News.nil
  refine wpAny_call ?_
  refine' enterCG ?k1 ?k2 ?k3 ?k4 ?k5 ?kA ?kF ?kK ?k6 ?k7 ?k8 ?k9 ?kB ?kD ?_ ?c2 ?c3 ?c4
  (case kA => exact rfl); (case kF => exact rfl); (case kK => assumption)
  (case k1 => k_asm); (case k2 => k_asm); (case k3 => k_asm); (case k4 => k_asm); (case k5 => k_asm); (case k6 => k_is); (case k7 => k_is); (case k8 => k_room)
  (case k9 => exact BindsTo.of_eq rfl); (case kB => exact rfl); (case kD => decide +kernel); (case c2 => exact rfl); (case c3 => exact rfl); (case c4 => exact rfl)
  intro g' L' h' tk' cells' FG' F' N' Y' B' X' T' l1 kG'
  k_lt l1; k_cells Y'; (try simp only [List.cons_append, List.nil_append] at N')
  (try dsimp only); (try k_fold)
  k_steps
  (rename Fr _ _ _ _ => lF'); (with_unfolding_all refine' For_turns lF' ?_); k_whole
  k_steps
  rename_i oc d1 X vsF tlF hF tkF DF alF neF hA NA S vsS tlS hS tkS FS DS
  have nSX : @Ne Nat X S := al9.1
  have nSC : @Ne Nat (L' + 1) S := al9.2.1
  have nXC : @Ne Nat (L' + 1) X := alF.1
  refine' loopL (fun i m nw => MJE S X (L' + 1) vsS i m nw) rfl FS N9 (.head _) ?j0 ?jk ?step ?done
  case j0 =>
    refine ⟨vsF, 0, oc, _, tlF ++ tlS, rfl, by rfl, d1, allNe_append alF.2 ne9.1, allNe_append neF ne9.2.1, ?_, DS.mono (fun p hp => List.mem_append.mpr (.inr hp)), ?_⟩
    case refine_2 => have := DF.length; rw [List.length_map] at this; rw [this]; decide
    rw [sofar_zero]
    exact DF.mono fun p hp => List.mem_append.mpr (.inl hp)
  case jk =>
    rintro i m nw ⟨vf, nf, oc, v₀, tl, j⟩
    rw [j.led]
    exact .head _
  case step =>
    clear FS N9 lF' NA
    rintro I oI i v m9 nw h9 tk9 hv ⟨vf, nf, oc, v₀, tl, j⟩ hI F9 N9 hcl
    obtain ⟨led, fnd, cel, neX, neC, dat, src, len⟩ := j
    subst led
    obtain ⟨⟨a, c⟩, aT, t1, t2, nT, hq, rfl, hT⟩ := pairs_get src hv
    have bq := side_bound _ (List.mem_of_getElem? hq)
    simp only at bq hT
    replace F9 := fr_over [(Str.ofString "found", .ref X)] F9 (all_cons fnd all_nil)
    simp only [AllNe] at hI
    have hT9 : IsTup h9 aT #[.int a t1, .int c t2] := News.isTup N9 (.tail _ (.tail _ (.tail _ (.tail _ hT))))
    k_dflt (refine' unpackN_ ?F ?N ?T ?k1 ?k2 ?k3 ?_; (case F => k_asm); (case N => k_asm); (case T => assumption);  (case k1 => exact rfl); (case k2 => exact rfl); (case k3 => exact rfl)); intro h' F' N'
    k_steps
    rename (IsRange _ _ _ _ _ _ _ _) => hr
    rename (Fr g' L' _ _) => FR
    rename (News g' L' _ _) => NR
    rename_i oF dF hq1 tq1 uq1 vq1 hq2 tq2 q3 q4 q5
    show LCg.CompSrc _ _ _ _ _ _ _ _ _ _ _ _ _ _
    refine LCg.CompSrc.range (n := c.toNat) (by rfl) FR NR hr (small_one (by omega) (by omega) (by omega) (by omega)) (by rw [rangeSize_nat]; simp) (by rw [sizeLine_eq]; omega) fun g0 => ?_
    refine compJ (fun k ys nw => ∃ tl2, nw = (I, oI) :: (S, listOf vsS.toArray 0) :: (X, listOf vf.toArray nf) :: (L' + 1, oF) :: (tl2 ++ tl) ∧ DatAll tl2 ys ((runN a k).map pairDat) ∧ AllNe I tl2 ∧ AllNe X tl2 ∧ AllNe (L' + 1) tl2) ?_ ?_ _ 0 [] _ (Nat.zero_add _) ?_
    · rintro k ys nw v Ik oIk Ck oCk Dk m2 h8 tk8 E8 hk9 ⟨tl2, rfl, dk, ni, nx, nc⟩ ⟨tv, rfl⟩ hC hx F8 N8 o8 ne8
      simp only [LCg.Off3] at o8
      k_steps
      rename (News g' L' _ _) => NT
      rename (Fr g' L' _ _) => FT
      rename_i T hT8 lT
      simp only [Int.zero_add] at NT
      show LCg.CompEnd _ _ _ _ _ _ _ _ _ _ _ _ _ _
      refine compEnd1 [(I, oI), (S, listOf vsS.toArray 0), (X, listOf vf.toArray nf), (L' + 1, oF)] (tl2 ++ tl) FT NT lT o8 trivial fun _ oo => ⟨_ :: tl2, rfl, ?_, ⟨oo.1.1, ni⟩, ⟨oo.2.2.1.1, nx⟩, ⟨oo.2.2.2.1.1, nc⟩⟩
      rw [runN_succ, List.map_append]
      exact (dk.mono fun q hq => .tail _ hq).append (.one (.tuple (.head _) (.cons (.int _ _) (.cons (.int _ _) .nil))))
    · rintro ys nw ⟨tl2, rfl, dk, ni, nx, nc⟩
      have lys : ys.length = c.toNat := by have := dk.length; rw [List.length_map, runN_length] at this; exact this
      k_steps
      rename (News g' L' _ _) => NT
      rename (Fr g' L' _ _) => FT
      rename_i D8 h8 tk8 o1
      have nIS : @Ne Nat S I := hI.1
      have nIX : @Ne Nat X I := hI.2.1
      have oo := off1_allNe o1.2.2.2.2
      have nXD : @Ne Nat X D8 := o1.2.2.1
      have aX : AllNe X (tl2 ++ tl) := allNe_append nx neX
      k_dflt (refine' extendK FT NT ?hb ?U ?z ?_; (case hb => k_mem); (case U => k_updF); k_whole)
      case z =>
        have : i ≤ 26 := by
          have e := (List.getElem?_eq_some_iff.mp hq).1
          exact Nat.le_of_lt e
        rw [sizeLine_eq]; exact sz27 len this lys bq
      intro h' n' FE NE
      k_steps
      show UnrEndW _ _ _ _ _ _
      refine turnEnd (nx := (S, listOf vsS.toArray 0) :: (X, listOf (vf ++ ys).toArray n') :: (L' + 1, oF) :: (tl2 ++ tl)) FE NE ?_ ?_ ⟨vf ++ ys, n', oF, _, tl2 ++ tl, rfl, ?_, dF, aX, allNe_append nc neC, ?_, src.mono fun q hq => List.mem_append.mpr (.inr hq), ?_⟩
      · (repeat (refine subC (by k_mem) ?_)); (repeat (first | exact subI | refine subT ?_))
      · exact ⟨hI.1, hI.2.1, hI.2.2.1, allNe_append ni hI.2.2.2⟩
      · with_unfolding_all rfl
      · rw [sofar_succ hq, List.map_append]
        exact (dat.mono fun q hq => List.mem_append.mpr (.inr hq)).append (dk.mono fun q hq => List.mem_append.mpr (.inl hq))
      · rw [List.length_append]; exact sz28 len lys bq
    · exact ⟨[], rfl, .nil, trivial, trivial, trivial⟩
  case done =>
    rintro m9 nw h9 tk9 ⟨vf, nf, oc, v₀, tl, j⟩ F9 N9
    obtain ⟨led, fnd, cel, neX, neC, dat, src, len⟩ := j
    subst led
    replace F9 := fr_over [(Str.ofString "found", .ref X)] F9 (all_cons fnd all_nil)
    k_steps
    have hl : vsS.length = 26 := by
      have := src.length
      rw [List.length_map] at this
      rw [this]; decide
    refine hret X vf nf tl _ _ ?_
    have NX : News g' L' h9 ((X, listOf vf.toArray nf) :: (tl ++ [])) := fun q hq => N9 q (.tail _ (by
      rw [List.append_nil] at hq
      rcases List.mem_cons.mp hq with rfl | hq
      · exact .head _
      · exact .tail _ (.tail _ hq)))
    rw [hl] at dat
    exact NewPairs.of kG' F9 NX dat (by rw [List.append_nil]; exact neX)
theorem mpairs_K (B : Below A₀ base outer h₀) (F : Fr h₀ L s.heap m) (X : (Mine.hd.heap_39 w.params).In h₀) (N : News h₀ L s.heap news)
    (T : Top p loose mean mg mb h₀) (hk : cs.kind = .function) (hdp : dp + 6 < recursionLimit)
    (hret : ∀ x vs n tl h' tk', Fr h₀ L h' m → News h₀ L h' ((x, listOf vs.toArray n) :: (news ++ tl)) → AllNe x (news ++ tl) → OffAll tl news → DatAll tl vs (mirPs.map pairDat) → Q (.ref x) { s with heap := h', toks := tk' }) :
    wpAny (model prog w) (ktrTop dp un gd cn cs L a ccd cl outer) (call (.ref 41) []) Q E s :=
  mpairs_spec B F X T hk hdp fun x vs n tl h' tk' P => let ⟨a, b, c, d, e⟩ := P.at_call F N; hret x vs n tl h' tk' a b c d e
end
end Mine
namespace Mine
section
variable {prog : Program} {w : World} {p : Program} {loose : List Str} {mean : ExcName → Option Value} {mg mb : Str → Option Value}
  {dp un : Nat} {gd : Option (List Code)} {cn : Str} {cs : Scope} {a : Addr} {ccd : Value} {cl : List (Str × Addr)} {outer : List Env} {A₀ : Around} {base h₀ : Heap} {L : Addr} {m : Str → Option Value} {news : List (Addr × Obj)} {s : Shared} {Q E : Value → Shared → Prop}
theorem say_C5 : True := by
  k_with_none
  k_with "room9" => (first | exact roomL 0 (by assumption) rfl | exact roomL 1 (by assumption) rfl | exact roomL 2 (by assumption) rfl | exact roomL 3 (by assumption) rfl | exact roomL 4 (by assumption) rfl | exact roomL 5 (by assumption) rfl | exact roomL 6 (by assumption) rfl | exact roomL 7 (by assumption) rfl | exact roomL 8 (by assumption) rfl | exact roomL 9 (by assumption) rfl | exact roomL 10 (by assumption) rfl | exact roomL 11 (by assumption) rfl | exact roomL 12 (by assumption) rfl | exact roomL 13 (by assumption) rfl | exact roomE 0 (by assumption) rfl | exact roomE 1 (by assumption) rfl | exact roomE 2 (by assumption) rfl | exact roomE 3 (by assumption) rfl | exact roomE 4 (by assumption) rfl)
  k_with "k_room" => (first | k_extra "room9" | ktr_room)
  k_with "and9" => (((repeat (with_reducible rename (_ ∧ _) => l8; first | exact l8.1 | exact Ne.symm l8.1 | exact Nat.ne_of_lt l8.1 | exact Nat.ne_of_gt l8.1 | exact Nat.ne_of_gt (Nat.lt_trans l8.1 (by assumption)) | exact Nat.ne_of_lt (Nat.lt_trans l8.1 (by assumption)) | (replace l8 := l8.2; first | exact l8 | exact Ne.symm l8 | exact Nat.ne_of_lt l8 | exact Nat.ne_of_gt l8 | skip))); done))
  k_with "k_ne" => ((refine neN ?_; (try dsimp only); first | assumption | exact Ne.symm (by assumption) | exact Nat.ne_of_lt (by assumption) | exact Nat.ne_of_gt (by assumption) | k_extra "and9" | omega))
  k_with "k_all" => (exact AllNe.ne (by assumption))
  k_with "call ref" => ((k_here; (with_reducible show wpAny _ _ (call (Value.ref 41) _ _) _ _ _); k_dflt (refine' mpairs_K ?k1 ?k2 ?k3 ?k4 ?k5 ?kK ?kd ?_; (case kK => first | exact rfl | assumption); (case k1 => k_asm); (case k2 => k_asm); (case k3 => k_asm); (case k4 => k_asm); (case k5 => k_asm); (case kd => k_room); k_whole); intro _ _ _ _ _ _ _ N9 al9 ne9 _; (simp only [List.cons_append, List.nil_append, AllNe, OffAll, and_true] at N9 al9 ne9); (try dsimp only)))
  k_with "setItem ref int" => ((k_here; (with_reducible show wpAny _ _ (setItem (Value.ref _) (Value.int _ _) (Value.int _ _)) _ _ _); k_dflt (refine' setI ?F ?N ?U ?d ?z ?_; (case F => k_asm); (case N => k_asm); (case U => k_updF); (case d => assumption); (case z => omega); k_whole); intro _ _ _ N' _; (try dsimp only at N'); (try k_sweep)))
  k_with "eval Dict nil nil" => ((k_here; k_dflt (refine' newI ?k1 ?k2 (TopRead.nolimit (by k_asm)) ?_; (case k1 => k_asm); (case k2 => k_asm); k_whole); intro _ _ _ _ _ l1 _ _; (try k_lt l1); (try k_sweep)))
  trivial

noncomputable def tblOf (ps : List (Int × Int)) : List (Int × Int) := ps.foldl (fun l q => putI q.2 q.1 (putI q.1 q.2 l)) []
theorem tblOf_succ {ps : List (Int × Int)} {i : Nat} {q : Int × Int} (h : ps[i]? = some q) : tblOf (ps.take (i + 1)) = putI q.2 q.1 (putI q.1 q.2 (tblOf (ps.take i))) := by
  unfold tblOf
  rw [List.take_add_one, h]
  simp
theorem tblOf_len (ps : List (Int × Int)) (i : Nat) : (tblOf (ps.take i)).length ≤ 2 * i := by
  induction i with
  | zero => simp [tblOf]
  | succ i ih =>
    cases h : ps[i]? with
    | none =>
      have : ps.take (i + 1) = ps.take i := by rw [List.take_add_one, h]; simp
      rw [this]; omega
    | some q =>
      rw [tblOf_succ h]
      have h1 := putI_length q.2 q.1 (putI q.1 q.2 (tblOf (ps.take i)))
      have h2 := putI_length q.1 q.2 (tblOf (ps.take i))
      omega
noncomputable def mirT : List (Int × Int) := tblOf mirPs
theorem mirPs_len : mirPs.length = 88 := by decide +kernel

structure TJ (prog : Program) (w : World) (X D : Addr) (vs : List Value) (n : Nat) (tl : List (Addr × Obj)) (i : Nat) (m : Str → Option Value) (nw : List (Addr × Obj)) (o : Obj) : Prop where
  led : nw = (X, listOf vs.toArray n) :: (D, o) :: tl
  tbl : m (Str.ofString "table") = some (.ref D)
  dct : IsI prog w o (tblOf (mirPs.take i))

set_option maxRecDepth 100000 in
set_option maxHeartbeats 8000000 in
theorem mtable_spec (B : Below A₀ base outer h₀) (F : Fr h₀ L s.heap m) (X : (Mine.hd.heap_39 w.params).In h₀)
    (T : Top p loose mean mg mb h₀) (hk : cs.kind = .function) (hdp : dp + 8 < recursionLimit)
    (hret : ∀ d o h' tk', GSub s.heap h' [] → s.heap.get? d = none → h'.get? d = some o → (d == sysModules) = false → IsI prog w o mirT → Q (.ref d) { s with heap := h', toks := tk' }) :
    wpAny (model prog w) (ktrTop dp un gd cn cs L a ccd cl outer) (call (.ref 48) []) Q E s := by
  have N : News h₀ L s.heap [] := News.nil
  refine wpAny_call ?_
  refine' code_defG ?k1 ?k2 ?k3 ?k4 ?k5 ?kA ?kF ?kK ?k6 ?k7 ?k8 ?k9 ?kB ?_ ?c2 ?c3 ?c4 ?c5
  (case kA => exact rfl); (case kF => exact rfl); (case kK => assumption)
  (case k1 => k_asm); (case k2 => k_asm); (case k3 => k_asm); (case k4 => k_asm); (case k5 => k_asm); (case k6 => k_is); (case k7 => k_is); (case k8 => k_room)
  (case k9 => exact BindsTo.of_eq rfl); (case c5 => decide); (case kB => exact locs rfl); (case c2 => exact rfl); (case c3 => exact rfl); (case c4 => exact rfl)
  intro g' L' h' FG' F' N' B' X' T' kG'
  (try dsimp only); (try k_fold)
  k_steps
  (rename Fr _ _ _ _ => lF'); (with_unfolding_all refine' For_turns lF' ?_); k_whole
  k_steps
  rename_i D hA oD loD dD hB NA X vs n tl h9 tk9 F9 D9
  have nXD : @Ne Nat D X := al9.1
  have hlen : vs.length = 88 := by have := D9.length; rw [List.length_map, mirPs_len] at this; exact this
  refine' loopL (fun i m nw => ∃ o, TJ prog w X D vs n tl i m nw o) rfl F9 N9 (.head _) ?j0 ?jk ?step ?done
  case j0 => exact ⟨oD, rfl, by rfl, dD⟩
  case jk =>
    rintro i m nw ⟨o, j⟩
    rw [j.led]
    exact .head _
  case step =>
    clear F9 N9 lF' NA dD
    rintro I oI i v m9 nw h9 tk9 hv ⟨o, j⟩ hI F9 N9 hcl
    obtain ⟨led, tbl, dct⟩ := j
    subst led
    obtain ⟨⟨a, c⟩, aT, t1, t2, nT, hq, rfl, hT⟩ := pairs_get D9 hv
    simp only at hT
    replace F9 := fr_over [(Str.ofString "table", .ref D)] F9 (all_cons tbl all_nil)
    simp only [AllNe] at hI
    have lI : i < 88 := by rw [← hlen]; exact (List.getElem?_eq_some_iff.mp hv).1
    have l1 := tblOf_len mirPs i
    have l2 := putI_length a c (tblOf (mirPs.take i))
    have hT9 : IsTup h9 aT #[.int a t1, .int c t2] := News.isTup N9 (.tail _ (.tail _ (.tail _ hT)))
    k_dflt (refine' unpackN_ ?F ?N ?T ?k1 ?k2 ?k3 ?_; (case F => k_asm); (case N => k_asm); (case T => assumption);  (case k1 => exact rfl); (case k2 => exact rfl); (case k3 => exact rfl)); intro h' F' N'
    k_steps
    rename (News g' L' _ _) => NT
    rename (Fr g' L' _ _) => FT
    rename (IsI _ _ _ _) => dT
    rw [← tblOf_succ hq] at dT
    show UnrEndW _ _ _ _ _ _
    exact turnEnd FT NT (fun q hq => hq) hI ⟨_, rfl, by with_unfolding_all rfl, dT⟩
  case done =>
    rintro m9 nw h9 tk9 ⟨o, j⟩ F9 N9
    obtain ⟨led, tbl, dct⟩ := j
    subst led
    replace F9 := fr_over [(Str.ofString "table", .ref D)] F9 (all_cons tbl all_nil)
    rw [hlen] at dct
    have e : mirPs.take 88 = mirPs := List.take_of_length_le (Nat.le_of_eq mirPs_len)
    rw [e] at dct
    k_steps
    exact hret _ _ _ _ (gsub_fr kG' F9) (fresh_of kG' N9 (.tail _ (.head _)) (fun h => nomatch h)) (N9.get (.tail _ (.head _))) loD dct

theorem mtable_K (B : Below A₀ base outer h₀) (F : Fr h₀ L s.heap m) (X : (Mine.hd.heap_39 w.params).In h₀) (N : News h₀ L s.heap news)
    (T : Top p loose mean mg mb h₀) (hk : cs.kind = .function) (hdp : dp + 8 < recursionLimit)
    (hret : ∀ d o h' tk', Fr h₀ L h' m → News h₀ L h' ((d, o) :: news) → AllNe d news → (d == sysModules) = false → IsI prog w o mirT → Q (.ref d) { s with heap := h', toks := tk' }) :
    wpAny (model prog w) (ktrTop dp un gd cn cs L a ccd cl outer) (call (.ref 48) []) Q E s :=
  mtable_spec B F X T hk hdp fun d o h' tk' G z e lo di => let ⟨a, b⟩ := add_after (add := [(d, o)]) F N G (fun q hq => by rw [List.mem_singleton.mp hq]; exact ⟨z, e⟩); hret d o h' tk' a b (allNe_fresh N z) lo di
end
end Mine
namespace Mine
section
open LCg
variable {prog : Program} {w : World} {A : Around} {E : Value → Shared → Prop} {s : Shared} {h₀ : Heap} {L : Addr} {m : Str → Option Value} {env : Env}
theorem tup_st {ax I : Addr} {its : Array Value} {n : Nat} (ht : h₀.IsTuple ax its) : ∀ i (h h' : Heap) (o : Obj) (nw : List (Addr × Obj)), (h.IsTupleIter I ax i ∧ h.IsTuple ax its) → h.get? I = some o → h'.get? I = some o → (∀ b o, h₀.get? b = some o → h'.get? b = some o) → News h₀ L h' nw → True → (h'.IsTupleIter I ax i ∧ h'.IsTuple ax its) :=
  fun i h h' o nw st e e' k N _ => ⟨by obtain ⟨o', q, r⟩ := st.1; rw [e] at q; cases q; exact ⟨o, e', r⟩, ht.at fun o e => k _ o e⟩
/-- where a tuple of the top is gone through -/
def SrcT (prog : Program) (w : World) (A : Around) (h₀ : Heap) (L : Addr) (m : Str → Option Value) (env : Env) (elt : PySem.Expr) (x : Str) (scope : Scope) (cl : List (Str × Addr)) (Fin : Shared → List Value → List (Addr × Obj) → Prop) (xv : Value) (s₁ : Shared) : Prop :=
  ∃ ax its news, xv = .ref ax ∧ A.handled = none ∧ Fr h₀ L s₁.heap m ∧ News h₀ L s₁.heap news ∧ h₀.IsTuple ax its ∧ its.size ≤ sizeLine ∧
    ∀ s₂ : Shared, (∃ h, s₂ = { s₁ with heap := h }) → CompRest prog w A h₀ L m env elt x scope cl s₂ (fun _ => True) (fun i v => its[i]? = some v) (Fin s₂) its.size 0 [] news
theorem ListComp_T {elt iter : PySem.Expr} {x : Str} {px : Pos} {scope : Scope} {cl : List (Str × Addr)} {pos : Pos} {Q : Value → Shared → Prop} (F₀ : Fr h₀ L s.heap m)
    (hclos : closureFor scope env = pure cl) (hcell : ∀ y ∈ scope.names, y.2 ≠ .cell) (hkind : scope.kind = .function)
    (hnames : ∀ y ∈ scope.names, y.2 = .local → scope.names.lookup y.1 = some .local) (hx : scope.names.lookup x = some .local)
    (h : wpAny (model prog w) A (eval iter env) (fun v s₁ => Stop (SrcT prog w A h₀ L m env elt x scope cl (fun s₂ => FinE h₀ L m s₂ Q) v s₁)) E s)
    (hs : ∀ x, foldedSetIterable iter env x = pure x := by intro _; rfl) :
    wpAny (model prog w) A (eval (.ListComp elt [⟨.Name x px, iter, [], 0⟩] scope pos) env) Q E s := by
  rw [eval_ListComp]
  refine wpAny_comprehension_free (use := none) rfl hs hclos hkind hnames (wpAny_mono h (fun xv s₁ h₁ => ?_) fun _ _ e => e)
  rcases h₁ with ⟨ax, its, news, rfl, hh, F, N, S, hsz, R⟩
  have hl : s₁.heap.IsTuple ax its := S.at fun o e => F.keep _ o e
  have hlt : ax < s₁.heap.objs.size := by obtain ⟨_, e, _⟩ := hl; exact Heap.lt_size e
  refine wpAny_pyIter_tuple hl ?_
  have up : ∀ b o, s₁.heap.get? b = some o → (s₁.heap.push { cls := .type "tuple_iterator", data := .fields #[.ref ax, .int 0 0] }).get? b = some o := fun b o e => Heap.get?_push_of_some _ e
  refine block_U (S := fun _ => True) (Walks.tuple hh s₁.heap.objs.size ax (Nat.ne_of_lt hlt) its) hsz (fun i h st => by obtain ⟨o, e, _⟩ := st.1; exact ⟨o, e⟩) (tup_st (n := 0) S) hcell hkind hx ⟨⟨_, Heap.get?_push_size _ rfl, rfl, rfl⟩, hl.at fun o e => up _ o e⟩ (fun b hb => ?_)
    (F.keeps up) (N.grown up) (Nat.ne_of_lt F.ns.lt) (next_is_new F) (fun p hp => Nat.ne_of_lt (Heap.lt_size (N p hp).1)) trivial (R _ ⟨_, rfl⟩) ?_
  · show b < (s₁.heap.push _).objs.size
    rw [Heap.size_push]
    rcases List.mem_cons.mp hb with rfl | hb
    · exact Nat.lt_succ_self _
    · rw [List.mem_singleton.mp hb]; exact Nat.lt_succ_of_lt hlt
  · intro D C h' tk m' ys news' F' N' o1 hn hC₀ hD₀ hCL hDL hCD offC fin
    refine ⟨m', hn, fun h'' hs'' => fin D h'' tk (F'.change hs'' hCL hC₀) (fun p hp => ?_) o1⟩
    refine ⟨hs''.extBut _ _ ?_ (N' p hp).1, (N' p hp).2⟩
    rcases List.mem_cons.mp hp with rfl | hp
    · exact Ne.symm hCD
    · exact offC p hp
theorem SrcT.of {elt : PySem.Expr} {x : Str} {scope : Scope} {cl : List (Str × Addr)} {Fin : Shared → List Value → List (Addr × Obj) → Prop} {ax : Addr} {its : Array Value} {news : List (Addr × Obj)} {s₁ : Shared}
    (hh : A.handled = none) (F : Fr h₀ L s₁.heap m) (N : News h₀ L s₁.heap news) (hl : h₀.IsTuple ax its) (hsz : its.size ≤ sizeLine)
    (h : ∀ g, CompRest prog w A h₀ L m env elt x scope cl { s₁ with heap := g } (fun _ => True) (fun i v => its[i]? = some v) (Fin { s₁ with heap := g }) its.size 0 [] news) :
    SrcT prog w A h₀ L m env elt x scope cl Fin (.ref ax) s₁ := ⟨ax, its, news, rfl, hh, F, N, hl, hsz, fun _ ⟨g, e⟩ => e ▸ h g⟩
end
section
variable {prog : Program} {w : World} {A : Around} {E : Value → Shared → Prop} {s : Shared} {h₀ : Heap} {L d : Addr} {m : Str → Option Value} {news : List (Addr × Obj)} {o : Obj} {l : List (Int × Int)}
/-- sorted over such a dict: its keys, in order -/
theorem sortedI {Q : Value → Shared → Prop} {ks : List Int} (hh : A.handled = none) (F : Fr h₀ L s.heap m) (N : News h₀ L s.heap news) (hm : (d, o) ∈ news) (lo : (d == sysModules) = false) (hd : IsI prog w o l) (hz : l.length < 64)
    (hp : (l.map (·.1)).Perm ks) (ho : ks.Pairwise (· ≤ ·))
    (h : ∀ D vs c h' tk, Fr h₀ L h' m → News h₀ L h' ((D, listOf vs.toArray c) :: news) → AllLt D news → IntsAre vs ks → Q (.ref D) { s with heap := h', toks := tk }) :
    wpAny (model prog w) A (call (.builtin "sorted") [.ref d]) Q E s := by
  obtain ⟨lo', kvs, hD, hf⟩ := hd.tab N hm lo
  obtain ⟨ep, hat⟩ := hD.dictAt
  have hlen : kvs.length = l.length := by rw [← hf.length, encD, List.length_map]
  refine kdu_sorted (kdl_dict (knd := PySem.intKind prog w) (kvs := kvs) (ep := ep) lo) hh F N hat (by rw [hlen, sizeLine_eq]; omega) fun D h' tk vs F' N' l1 hl hv => ?_
  have hi : IntsAre vs (l.map (·.1)) := kdy_ints (by rw [hl, hlen, List.length_map]) fun j v hvj => by
    obtain ⟨k, x, hx, hk⟩ := hv j v hvj
    obtain ⟨dv, hd, _⟩ := hf.at hx
    have hd' : (l[j]?).map encQ = some (PyData.int k, dv) := by rw [← List.getElem?_map]; exact hd
    cases hcj : l[j]? with
    | none => rw [hcj] at hd'; cases hd'
    | some p =>
      rw [hcj] at hd'
      have e1 : PyData.int p.1 = PyData.int k := congrArg Prod.fst (Option.some.inj hd')
      injection e1 with e1
      obtain ⟨t, rfl⟩ := Value.isInt_shape hk
      exact ⟨p.1, by rw [List.getElem?_map, hcj]; rfl, t, by rw [e1]⟩
  refine ksk_lsort (news' := fun o => (D, o) :: news) F' N' (fun o => Upd.head fun p hp => Nat.ne_of_lt (l1 p hp)) rfl hi (by rw [List.length_map]; exact hz) fun vs' ns' c h'' F'' N'' i' e' p' o' _ => ?_
  have e : ns' = ks := lks_uniq (p'.trans hp) o' ho
  subst e
  exact h D vs' c h'' tk F'' N'' (allLt_of l1) i'
/-- two lists of the ledger, one behind the other -/
theorem listAddK {a b : Addr} {ys zs : List Value} {n n2 : Nat} {Q : Value → Shared → Prop} (F : Fr h₀ L s.heap m) (N : News h₀ L s.heap news) (ha : (a, listOf ys.toArray n) ∈ news) (hb : (b, listOf zs.toArray n2) ∈ news) (hsz : ys.length + zs.length ≤ sizeLine)
    (h : ∀ R h', Fr h₀ L h' m → News h₀ L h' ((R, listOf (ys ++ zs).toArray 0) :: news) → (∀ q ∈ news, q.1 < R) → Q (.ref R) { s with heap := h' }) : wpAny (model prog w) A (binaryOp .Add (.ref a) (.ref b)) Q E s := by
  refine add_arrays F N ⟨_, (N _ ha).1, rfl, _, rfl⟩ ⟨_, (N _ hb).1, rfl, _, rfl⟩ (fun h' F' N' => h _ h' F' (by simpa using N') fun q hq => Heap.lt_size (N q hq).1) ?_
  rw [List.size_toArray, List.size_toArray]; exact hsz
end
end Mine
namespace Mine
section
variable {prog : Program} {w : World} {p : Program} {loose : List Str} {mean : ExcName → Option Value} {mg mb : Str → Option Value}
  {dp un : Nat} {gd : Option (List Code)} {cn : Str} {cs : Scope} {a : Addr} {ccd : Value} {cl : List (Str × Addr)} {outer : List Env} {A₀ : Around} {base h₀ : Heap} {L : Addr} {m : Str → Option Value} {news : List (Addr × Obj)} {s : Shared} {Q E : Value → Shared → Prop}
theorem say_C6 : True := by
  k_with_none
  k_with "room9" => (first | exact roomL 0 (by assumption) rfl | exact roomL 1 (by assumption) rfl | exact roomL 2 (by assumption) rfl | exact roomL 3 (by assumption) rfl | exact roomL 4 (by assumption) rfl | exact roomL 5 (by assumption) rfl | exact roomL 6 (by assumption) rfl | exact roomL 7 (by assumption) rfl | exact roomL 8 (by assumption) rfl | exact roomL 9 (by assumption) rfl | exact roomL 10 (by assumption) rfl | exact roomL 11 (by assumption) rfl | exact roomL 12 (by assumption) rfl | exact roomL 13 (by assumption) rfl | exact roomE 0 (by assumption) rfl | exact roomE 1 (by assumption) rfl | exact roomE 2 (by assumption) rfl | exact roomE 3 (by assumption) rfl | exact roomE 4 (by assumption) rfl)
  k_with "k_room" => (first | k_extra "room9" | ktr_room)
  k_with "and9" => (((repeat (with_reducible rename (_ ∧ _) => l8; first | exact l8.1 | exact Ne.symm l8.1 | exact Nat.ne_of_lt l8.1 | exact Nat.ne_of_gt l8.1 | exact Nat.ne_of_gt (Nat.lt_trans l8.1 (by assumption)) | exact Nat.ne_of_lt (Nat.lt_trans l8.1 (by assumption)) | (replace l8 := l8.2; first | exact l8 | exact Ne.symm l8 | exact Nat.ne_of_lt l8 | exact Nat.ne_of_gt l8 | skip))); done))
  k_with "k_ne" => ((refine neN ?_; (try dsimp only); first | assumption | exact Ne.symm (by assumption) | exact Nat.ne_of_lt (by assumption) | exact Nat.ne_of_gt (by assumption) | k_extra "and9" | omega))
  k_with "call ref" => ((k_here; (with_reducible show wpAny _ _ (call (Value.ref 48) _ _) _ _ _); k_dflt (refine' mtable_K ?k1 ?k2 ?k3 ?k4 ?k5 ?kK ?kd ?_; (case kK => first | exact rfl | assumption); (case k1 => k_asm); (case k2 => k_asm); (case k3 => k_asm); (case k4 => k_asm); (case k5 => k_asm); (case kd => k_room); k_whole); intro _ _ _ _ _ _ ne9 _ _; (simp only [AllNe, OffAll, and_true] at ne9); (try dsimp only)))
  k_with "call builtin:dict.get" => ((k_here; (with_reducible show wpAny _ _ (call (Value.builtin "dict.get") [Value.ref _, Value.int _ _, Value.int _ _]) _ _ _); k_dflt (refine' getI ?k1 ?k2 ?k3 ?k4 ?_; (case k1 => k_asm); (case k2 => k_mem); (case k3 => assumption); (case k4 => assumption); k_whole); intro _; (try dsimp only)))
  k_with "getMethod ref" => ((k_here; k_dflt (refine' getMethodI ?k1 ?k2 ?k3 ?k4 ?_; (case k1 => k_asm); (case k2 => k_mem); (case k3 => assumption); (case k4 => assumption); k_whole); (try dsimp only)))
  trivial
noncomputable def mirOf (c : Int) : Int := (mirT.lookup c).getD c

set_option maxRecDepth 100000 in
set_option maxHeartbeats 8000000 in
theorem mirrored_spec {c : Int} {t : Tok} (B : Below A₀ base outer h₀) (F : Fr h₀ L s.heap m) (X : (Mine.hd.heap_39 w.params).In h₀)
    (T : Top p loose mean mg mb h₀) (hk : cs.kind = .function) (hdp : dp + 10 < recursionLimit)
    (hret : ∀ t' h' tk', GSub s.heap h' [] → Q (.int (mirOf c) t') { s with heap := h', toks := tk' }) :
    wpAny (model prog w) (ktrTop dp un gd cn cs L a ccd cl outer) (call (.ref 55) [.int c t]) Q E s := by
  have N : News h₀ L s.heap [] := News.nil
  refine wpAny_call ?_
  refine' code_defG ?k1 ?k2 ?k3 ?k4 ?k5 ?kA ?kF ?kK ?k6 ?k7 ?k8 ?k9 ?kB ?_ ?c2 ?c3 ?c4 ?c5
  (case kA => exact rfl); (case kF => exact rfl); (case kK => assumption)
  (case k1 => k_asm); (case k2 => k_asm); (case k3 => k_asm); (case k4 => k_asm); (case k5 => k_asm); (case k6 => k_is); (case k7 => k_is); (case k8 => k_room)
  (case k9 => exact BindsTo.of_eq rfl); (case c5 => decide); (case kB => exact locs rfl); (case c2 => exact rfl); (case c3 => exact rfl); (case c4 => exact rfl)
  intro g' L' h' FG' F' N' B' X' T' kG'
  (try dsimp only); (try k_fold)
  k_steps
  rename (Fr g' L' _ _) => F9
  exact hret _ _ _ (gsub_fr kG' F9)
theorem mirrored_K {c : Int} {t : Tok} (B : Below A₀ base outer h₀) (F : Fr h₀ L s.heap m) (X : (Mine.hd.heap_39 w.params).In h₀) (N : News h₀ L s.heap news)
    (T : Top p loose mean mg mb h₀) (hk : cs.kind = .function) (hdp : dp + 10 < recursionLimit)
    (hret : ∀ t' h' tk', Fr h₀ L h' m → News h₀ L h' news → Q (.int (mirOf c) t') { s with heap := h', toks := tk' }) :
    wpAny (model prog w) (ktrTop dp un gd cn cs L a ccd cl outer) (call (.ref 55) [.int c t]) Q E s :=
  mirrored_spec B F X T hk hdp fun t' h' tk' G => hret t' h' tk' (fr_keep0 F G) (news_keep0 N G)
end
end Mine
namespace Mine
section
variable {prog : Program} {w : World} {p : Program} {loose : List Str} {mean : ExcName → Option Value} {mg mb : Str → Option Value}
  {dp un : Nat} {gd : Option (List Code)} {cn : Str} {cs : Scope} {a : Addr} {ccd : Value} {cl : List (Str × Addr)} {outer : List Env} {A₀ : Around} {base h₀ : Heap} {L : Addr} {m : Str → Option Value} {news : List (Addr × Obj)} {s : Shared} {Q E : Value → Shared → Prop}
theorem say_C7 : True := by
  k_with_none
  k_with "room9" => (first | exact roomL 0 (by assumption) rfl | exact roomL 1 (by assumption) rfl | exact roomL 2 (by assumption) rfl | exact roomL 3 (by assumption) rfl | exact roomL 4 (by assumption) rfl | exact roomL 5 (by assumption) rfl | exact roomL 6 (by assumption) rfl | exact roomL 7 (by assumption) rfl | exact roomL 8 (by assumption) rfl | exact roomL 9 (by assumption) rfl | exact roomL 10 (by assumption) rfl | exact roomL 11 (by assumption) rfl | exact roomL 12 (by assumption) rfl | exact roomL 13 (by assumption) rfl | exact roomE 0 (by assumption) rfl | exact roomE 1 (by assumption) rfl | exact roomE 2 (by assumption) rfl | exact roomE 3 (by assumption) rfl | exact roomE 4 (by assumption) rfl)
  k_with "k_room" => (first | k_extra "room9" | ktr_room)
  k_with "and9" => (((repeat (with_reducible rename (_ ∧ _) => l8; first | exact l8.1 | exact Ne.symm l8.1 | exact Nat.ne_of_lt l8.1 | exact Nat.ne_of_gt l8.1 | exact Nat.ne_of_gt (Nat.lt_trans l8.1 (by assumption)) | exact Nat.ne_of_lt (Nat.lt_trans l8.1 (by assumption)) | (replace l8 := l8.2; first | exact l8 | exact Ne.symm l8 | exact Nat.ne_of_lt l8 | exact Nat.ne_of_gt l8 | skip))); done))
  k_with "k_ne" => ((refine neN ?_; (try dsimp only); first | assumption | exact Ne.symm (by assumption) | exact Nat.ne_of_lt (by assumption) | exact Nat.ne_of_gt (by assumption) | k_extra "and9" | omega))
  trivial
noncomputable def farL : List (Int × Int) := [(60, 62), (91, 93), (123, 125), (171, 187), (8712, 8715), (8713, 8716), (8714, 8717), (65124, 65125), (65308, 65310), (65339, 65341), (65371, 65373)]
set_option maxRecDepth 100000 in
set_option maxHeartbeats 8000000 in
theorem far_K (B : Below A₀ base outer h₀) (F : Fr h₀ L s.heap m) (X : (Mine.hd.heap_39 w.params).In h₀) (N : News h₀ L s.heap news)
    (T : Top p loose mean mg mb h₀) (hk : cs.kind = .function) (hdp : dp + 4 < recursionLimit)
    (hret : ∀ d o h' tk', Fr h₀ L h' m → News h₀ L h' ((d, o) :: news) → AllNe d news → (d == sysModules) = false → IsI prog w o farL → Q (.ref d) { s with heap := h', toks := tk' }) :
    wpAny (model prog w) (ktrTop dp un gd cn cs L a ccd cl outer) (call (.ref 198) []) Q E s := by
  have N0 := N
  have F0 := F
  clear N
  have N : News h₀ L s.heap [] := News.nil
  refine wpAny_call ?_
  refine' code_defG ?k1 ?k2 ?k3 ?k4 ?k5 ?kA ?kF ?kK ?k6 ?k7 ?k8 ?k9 ?kB ?_ ?c2 ?c3 ?c4 ?c5
  (case kA => exact rfl); (case kF => exact rfl); (case kK => assumption)
  (case k1 => k_asm); (case k2 => k_asm); (case k3 => k_asm); (case k4 => k_asm); (case k5 => k_asm); (case k6 => k_is); (case k7 => k_is); (case k8 => k_room)
  (case k9 => exact BindsTo.of_eq rfl); (case c5 => decide); (case kB => exact locs rfl); (case c2 => exact rfl); (case c3 => exact rfl); (case c4 => exact rfl)
  intro g' L' h' FG' F' N' B' X' T' kG'
  (try dsimp only); (try k_fold)
  k_steps
  rename (Fr g' L' _ _) => F9
  rename (News g' L' _ _) => N9
  rename (Obj.IsDictOf _ _ _) => hd9
  rename (FlatPairs _ _ _) => hf9
  rename (_ = false) => lo9
  have z := fresh_of kG' N9 (.head _) (fun h => nomatch h)
  obtain ⟨a, b⟩ := add_after (add := [(_, _)]) F0 N0 (gsub_fr kG' F9) (fun q hq => by rw [List.mem_singleton.mp hq]; exact ⟨z, N9.get (.head _)⟩)
  exact hret _ _ _ _ a b (allNe_fresh N0 z) lo9 ⟨_, hd9, hf9⟩
theorem say_C71 : True := by
  k_with "call ref" => ((k_here; (with_reducible show wpAny _ _ (call (Value.ref 198) _ _) _ _ _); k_dflt (refine' far_K ?k1 ?k2 ?k3 ?k4 ?k5 ?kK ?kd ?_; (case kK => first | exact rfl | assumption); (case k1 => k_asm); (case k2 => k_asm); (case k3 => k_asm); (case k4 => k_asm); (case k5 => k_asm); (case kd => k_room); k_whole); intro _ _ _ _ _ _ ne9 _ _; (simp only [AllNe, OffAll, and_true] at ne9); (try dsimp only)))
  k_with "eval ListComp" => ((k_here; k_dflt (first | ((with_reducible show wpAny _ _ (eval (PySem.Expr.ListComp _ [⟨_, PySem.Expr.Name _ _, _, _⟩] _ _) _) _ _ _); refine Mine.ListComp_T (F₀ := by k_asm) (by with_unfolding_all rfl) (by decide) (by rfl) (by decide) (by rfl) ?_) | refine Mine.ListComp_stop (F₀ := by k_asm) (by with_unfolding_all rfl) (by decide) (by rfl) (by decide) (by rfl) ?_)))
  trivial

noncomputable def nearL : List Int := [40, 8249, 8261, 8317, 8333, 8804, 8806, 8808, 8810, 8814, 8816, 8818, 8820, 8822, 8824, 8826, 8828, 8830, 8832, 8834, 8836, 8838, 8840, 8842, 8847, 8849, 8866, 8905, 8907, 8912, 8918, 8920, 8922, 8924, 8926, 8928, 8930, 8932, 8934, 8936, 8938, 8940, 8968, 8970, 9001, 10088, 10090, 10092, 10094, 10096, 10098, 10100, 10214, 10216, 10218, 10220, 10222, 10627, 10629, 10631, 10633, 10635, 12296, 12298, 12300, 12302, 12304, 12308, 12310, 12312, 12314, 65113, 65115, 65117, 65288, 65375, 65378]
noncomputable def nearPs : List (Int × Int) := nearL.map fun n => (n, n + 1)
noncomputable abbrev lawPs : List (Int × Int) := nearPs ++ farL
theorem news_drop2 {h : Heap} {a b : Addr × Obj} {r : List (Addr × Obj)} (N : News h₀ L h (a :: b :: r)) : News h₀ L h (a :: r) := fun q hq => N q (by
  rcases List.mem_cons.mp hq with rfl | hq
  · exact .head _
  · exact .tail _ (.tail _ hq))
noncomputable def farKs : List Int := [60, 91, 123, 171, 8712, 8713, 8714, 65124, 65308, 65339, 65371]
theorem near_tup {h : Heap} (X : (Mine.hd.heap_39 w.params).In h) : ∃ its : Array Value, h.IsTuple 191 its ∧ IntsAre its.toList nearL := by
  refine ⟨_, ⟨_, X 191 _ (by rfl), rfl, _, rfl⟩, ?_⟩
  unfold nearL
  repeat' constructor
theorem ints_get {vs : List Value} {ns : List Int} {i : Nat} {v : Value} (h : IntsAre vs ns) (hv : vs[i]? = some v) : ∃ n t, ns[i]? = some n ∧ v = .int n t := by
  induction h generalizing i with
  | nil => cases hv
  | cons n t _ ih =>
    cases i with
    | zero => cases hv; exact ⟨n, t, rfl, rfl⟩
    | succ i => exact ih hv
theorem take_map_succ {α β : Type} {l : List α} {f : α → β} {i : Nat} {q : α} (h : l[i]? = some q) : (l.take (i + 1)).map f = (l.take i).map f ++ [f q] := by
  rw [List.take_add_one, h]; simp
theorem farL_get : ∀ k ∈ farKs, farL.lookup k = some ((farL.lookup k).getD 0) := by decide
theorem farPs_is : (farKs.map fun k => (k, (farL.lookup k).getD 0)) = farL := by decide +kernel
theorem say_C72 : True := by
  k_with "call builtin:sorted" => ((k_here; (with_reducible show wpAny _ _ (call (Value.builtin "sorted") [Value.ref _]) _ _ _); k_dflt (refine' sortedI (ks := farKs) rfl ?k1 ?k2 ?k3 ?k4 ?k5 ?k6 ?k7 ?k8 ?_; (case k1 => k_asm); (case k2 => k_asm); (case k3 => k_mem); (case k4 => assumption); (case k5 => assumption); (case k6 => decide); (case k7 => decide); (case k8 => decide); k_whole); intro _ _ _ _ _ _ _ l9 _; (try k_lt l9); (try dsimp only)))
  k_with "subscriptTail" => ((k_here; k_dflt (refine' tailI ?k1 ?k2 ?k3 ?k4 ?k5 ?_ ?k6; (case k1 => k_asm); (case k2 => k_mem); (case k3 => assumption); (case k4 => assumption); (case k5 => assumption); (case k6 => with_unfolding_all rfl); k_whole); intro _; (try dsimp only)))
  trivial
set_option maxRecDepth 100000 in
set_option maxHeartbeats 8000000 in
theorem lpairs_spec (B : Below A₀ base outer h₀) (F : Fr h₀ L s.heap m) (X : (Mine.hd.heap_39 w.params).In h₀)
    (T : Top p loose mean mg mb h₀) (hk : cs.kind = .function) (hdp : dp + 6 < recursionLimit)
    (hret : ∀ x vs n tl h' tk', NewPairs s.heap h' x vs n tl lawPs → Q (.ref x) { s with heap := h', toks := tk' }) :
    wpAny (model prog w) (ktrTop dp un gd cn cs L a ccd cl outer) (call (.ref 215) []) Q E s := by
  have N : News h₀ L s.heap [] := News.nil
  refine wpAny_call ?_
  refine' code_defG ?k1 ?k2 ?k3 ?k4 ?k5 ?kA ?kF ?kK ?k6 ?k7 ?k8 ?k9 ?kB ?_ ?c2 ?c3 ?c4 ?c5
  (case kA => exact rfl); (case kF => exact rfl); (case kK => assumption)
  (case k1 => k_asm); (case k2 => k_asm); (case k3 => k_asm); (case k4 => k_asm); (case k5 => k_asm); (case k6 => k_is); (case k7 => k_is); (case k8 => k_room)
  (case k9 => exact BindsTo.of_eq rfl); (case c5 => decide); (case kB => exact locs rfl); (case c2 => exact rfl); (case c3 => exact rfl); (case c4 => exact rfl)
  intro g' L' h' FG' F' N' B' X' T' kG'
  (try dsimp only); (try k_fold)
  k_steps
  obtain ⟨its, hT, hI⟩ := near_tup X'
  have hsz : its.size = 77 := by have := hI.length; rw [Array.length_toList] at this; exact this
  show SrcT _ _ _ _ _ _ _ _ _ _ _ _ _ _
  rename (Fr g' L' _ _) => FR
  rename (News g' L' _ _) => NR
  refine SrcT.of rfl FR NR hT (by rw [hsz, sizeLine_eq]; decide) fun g0 => ?_
  refine compJ (fun i ys nw => DatAll nw ys ((nearPs.take i).map pairDat)) ?_ ?_ _ 0 [] _ (Nat.zero_add _) .nil
  · rintro i ys nw v I oI C oC D m₂ h8 tk8 E8 hi dk hP hC hx F8 N8 o8 ne8
    obtain ⟨n, t, hn, rfl⟩ := ints_get hI (by rw [Array.getElem?_toList]; exact hP)
    have hq : nearPs[i]? = some (n, n + 1) := by unfold nearPs; rw [List.getElem?_map, hn]; rfl
    k_steps
    rename (News g' L' _ _) => NT
    rename (Fr g' L' _ _) => FT
    rename (_ ∧ _ ∧ _ ∧ AllLt _ _) => lT
    show LCg.CompEnd _ _ _ _ _ _ _ _ _ _ _ _ _ _
    refine compEnd1 [] nw FT NT lT o8 trivial fun _ _ => ?_
    rw [take_map_succ hq]
    exact (dk.mono fun q hq => .tail _ hq).append (.one (.tuple (.head _) (.cons (.int _ _) (.cons (.int _ _) .nil))))
  · intro ys nw dk
    rw [hsz, show nearPs.take 77 = nearPs from by decide] at dk
    k_steps
    rename (News g' L' _ _) => NS
    rename (Fr g' L' _ _) => FS
    rename (IntsAre _ farKs) => iS
    rename (LCg.Off1 _ _) => o1
    rename_i D1 hA tkA FA NA d9 o9 hB tkB FB NB lo9 D9 S9 vs9 c9 hD tkD
    have hl9 : vs9.toArray.size = 11 := by have := iS.length; rw [List.size_toArray]; exact this
    show LCg.CompSrc _ _ _ _ _ _ _ _ _ _ _ _ _ _
    refine LCg.CompSrc.ledger rfl FS NS (.head _) (by rw [hl9, sizeLine_eq]; decide) fun g1 => ?_
    rw [hl9]
    refine compJ (fun i zs nw2 => ∃ tl2, nw2 = (S9, listOf vs9.toArray c9) :: (d9, o9) :: (D1, LCg.lst ys) :: (tl2 ++ nw) ∧ DatAll tl2 zs ((farL.take i).map pairDat)) ?_ ?_ _ 0 [] _ (Nat.zero_add _) ⟨[], rfl, .nil⟩
    · rintro i zs nw2 v I oI C oC D m₂ h8 tk8 E8 hi ⟨tl2, rfl, dk2⟩ hP hC hx F8 N8 o8 ne8
      obtain ⟨n, t, hn, rfl⟩ := ints_get iS (by simpa using hP)
      have hfar := farL_get n (List.mem_of_getElem? hn)
      have hq : farL[i]? = some (n, (farL.lookup n).getD 0) := by
        have := congrArg (fun l => l[i]?) farPs_is
        simp only [List.getElem?_map, hn] at this
        exact this.symm
      simp only [LCg.Off3] at o8
      k_steps
      rename (News g' L' _ _) => NT
      rename (Fr g' L' _ _) => FT
      rename (_ ∧ _ ∧ _ ∧ _ ∧ _ ∧ _ ∧ _ ∧ AllLt _ _) => lT
      show LCg.CompEnd _ _ _ _ _ _ _ _ _ _ _ _ _ _
      refine compEnd1 [(S9, listOf vs9.toArray c9), (d9, o9), (D1, LCg.lst ys)] (tl2 ++ nw) FT (news_drop2 NT) lT.2 o8 (.inr ⟨_, .head _, rfl, _, rfl⟩) fun _ _ => ⟨_ :: tl2, rfl, ?_⟩
      · rw [take_map_succ hq]
        exact (dk2.mono fun q hq => .tail _ hq).append (.one (.tuple (.head _) (.cons (.int _ _) (.cons (.int _ _) .nil))))
    · rintro zs nw2 ⟨tl2, rfl, dk2⟩
      rw [show farL.take 11 = farL from by decide] at dk2
      k_steps
      rename (News g' L' _ _) => NT
      rename (Fr g' L' _ _) => FT
      have lys : ys.length = 77 := by have := dk.length; rw [this]; decide
      have lzs : zs.length = 11 := by have := dk2.length; rw [this]; decide
      k_dflt (refine' listAddK (ys := ys) (zs := zs) FT NT ?k1 ?k2 ?z ?_; (case k1 => k_mem); (case k2 => k_mem); (case z => rw [sizeLine_eq]; omega))
      intro R hE FE NE lE
      k_steps
      refine hret R (ys ++ zs) 0 (nw ++ tl2) _ _ (NewPairs.of (news := []) kG' FE (fun q hq => NE q ?_) ?_ ?_)
      · rw [List.append_nil] at hq
        rcases List.mem_cons.mp hq with rfl | hq
        · exact .head _
        · refine .tail _ (.tail _ (.tail _ (.tail _ (.tail _ ?_))))
          rcases List.mem_append.mp hq with hq | hq
          · exact List.mem_append.mpr (.inr hq)
          · exact List.mem_append.mpr (.inl hq)
      · rw [List.map_append]
        exact (dk.mono fun q hq => List.mem_append.mpr (.inl hq)).append (dk2.mono fun q hq => List.mem_append.mpr (.inr hq))
      · refine allNe_of fun q hq => ?_
        rw [List.append_nil] at hq
        refine Nat.ne_of_lt (lE q (.tail _ (.tail _ (.tail _ (.tail _ ?_)))))
        rcases List.mem_append.mp hq with hq | hq
        · exact List.mem_append.mpr (.inr hq)
        · exact List.mem_append.mpr (.inl hq)
theorem lpairs_K (B : Below A₀ base outer h₀) (F : Fr h₀ L s.heap m) (X : (Mine.hd.heap_39 w.params).In h₀) (N : News h₀ L s.heap news)
    (T : Top p loose mean mg mb h₀) (hk : cs.kind = .function) (hdp : dp + 6 < recursionLimit)
    (hret : ∀ x vs n tl h' tk', Fr h₀ L h' m → News h₀ L h' ((x, listOf vs.toArray n) :: (news ++ tl)) → AllNe x (news ++ tl) → OffAll tl news → DatAll tl vs (lawPs.map pairDat) → Q (.ref x) { s with heap := h', toks := tk' }) :
    wpAny (model prog w) (ktrTop dp un gd cn cs L a ccd cl outer) (call (.ref 215) []) Q E s :=
  lpairs_spec B F X T hk hdp fun x vs n tl h' tk' P => let ⟨a, b, c, d, e⟩ := P.at_call F N; hret x vs n tl h' tk' a b c d e
end
end Mine
namespace Mine
/-- a claim in a box: what elaborates it does not look inside -/
structure Box (P : Prop) : Prop where
  out : P
theorem stop_ {P : Prop} (h : Stop P) : P := h
theorem execs_split_wp {M : Model} {A : Around} {E : Value → Shared → Prop} {env : Env} {r : List Stmt} {Q : Flow → Shared → Prop} {Γ : PySem.Ctx} (hΓ : Γ.In A) : ∀ (l1 : List Stmt) p s,
    Sem.wp M Γ (execs l1 env) (fun fl _ s' => match fl with | .next => wpAny M A (execs r env) Q E s' | f => Q f s') (fun e _ s' => E e s') p s → Sem.wp M Γ (execs (l1 ++ r) env) (fun f _ s' => Q f s') (fun e _ s' => E e s') p s
  | [], p, s, h => by
    rw [execs_nil] at h
    exact h Γ p hΓ
  | a :: l, p, s, h => by
    rw [List.cons_append, execs_cons, Sem.wp_bind']
    rw [execs_cons, Sem.wp_bind'] at h
    refine Sem.wp_mono M Γ _ (fun f p' s' h' => ?_) (fun _ _ _ h' => h') _ _ h
    cases f with
    | next => exact execs_split_wp hΓ l p' s' h'
    | _ => exact h'
theorem execs_split {M : Model} {A : Around} {E : Value → Shared → Prop} {s : Shared} {env : Env} {l1 r : List Stmt} {Q : Flow → Shared → Prop}
    (h : wpAny M A (execs l1 env) (fun fl s' => match fl with | .next => wpAny M A (execs r env) Q E s' | f => Q f s') E s) : wpAny M A (execs (l1 ++ r) env) Q E s :=
  fun Γ p hΓ => execs_split_wp hΓ l1 p s (h Γ p hΓ)
/-- a statement done by hand, the walk stands still behind it -/
def PoolOk (o : Obj) (C : Addr) (k : Nat) : Prop := ∃ g t1 st t2 pl t3 n, o = listOf #[.ref C, .int g t1, .int st t2, .int pl t3] n ∧ 0 ≤ pl ∧ pl ≤ (k : Int) ∧ 0 ≤ st ∧ st < 2147483647
def CellsOk (o : Obj) : Prop := ∃ vs xs n, o = listOf (List.toArray vs) n ∧ IntsAre vs xs ∧ xs.length ≤ 63
end Mine
namespace Mine
section
open LCg
variable {prog : Program} {w : World} {A : Around} {E : Value → Shared → Prop} {s : Shared} {h₀ : Heap} {L : Addr} {m : Str → Option Value} {env : Env}
/-- the dict that a comprehension over the keys l builds, each with its value in t -/
noncomputable def reTab (t : List (Int × Int)) (l : List Int) : List (Int × Int) := l.foldl (fun a k => putI k ((t.lookup k).getD 0) a) []
theorem putAll_re (t : List (Int × Int)) (l : List Int) : putAll PyData.int (fun k : Int => k) (fun k => PyData.int ((t.lookup k).getD 0)) l = encD (reTab t l) := by
  have h : ∀ l : List Int, ∀ a : List (Int × Int), l.foldl (fun acc k => putD (PyData.int k) (PyData.int ((t.lookup k).getD 0)) acc) (encD a) = encD (l.foldl (fun a k => putI k ((t.lookup k).getD 0) a) a) := by
    intro l
    induction l with
    | nil => intro a; rfl
    | cons k r ih => intro a; rw [List.foldl_cons, List.foldl_cons, putD_enc, ih]
  exact h l []
theorem lk_cons (j : Int) (p : Int × Int) (r : List (Int × Int)) : (p :: r).lookup j = if j = p.1 then some p.2 else r.lookup j := by
  rw [List.lookup_cons]
  by_cases h : j = p.1
  · simp [h]
  · have e : (j == p.1) = false := by simpa using h
    simp [e, h]
theorem putI_lookup (k v j : Int) (l : List (Int × Int)) : (putI k v l).lookup j = if j = k then some v else l.lookup j := by
  unfold putI
  by_cases h : (l.any fun p => decide (p.1 = k)) = true
  · rw [if_pos h]
    induction l with
    | nil => simp at h
    | cons p r ih =>
      rw [List.map_cons, lk_cons, lk_cons]
      by_cases hp : p.1 = k
      · rw [if_pos hp]
        by_cases hj : j = k
        · simp [hj, hp]
        · rw [if_neg (by rw [hp]; exact hj), if_neg hj, if_neg (by rw [hp]; exact hj)]
          by_cases ha : (r.any fun p => decide (p.1 = k)) = true
          · rw [ih ha, if_neg hj]
          · congr 1
            refine (List.map_congr_left fun q hq => ?_).trans (List.map_id' r)
            rw [if_neg fun hk => ha (List.any_eq_true.mpr ⟨q, hq, by simp [hk]⟩)]
      · rw [if_neg hp]
        have ha : (r.any fun p => decide (p.1 = k)) = true := by
          simp only [List.any_cons, Bool.or_eq_true, decide_eq_true_eq] at h
          rcases h with h | h
          · exact absurd h hp
          · exact h
        rw [ih ha]
        by_cases hj : j = k
        · rw [if_neg (by rw [hj]; exact Ne.symm hp), if_pos hj, if_pos hj]
        · rw [if_neg hj, if_neg hj]
  · rw [if_neg h]
    induction l with
    | nil => rw [List.nil_append, lk_cons]
    | cons p r ih =>
      simp only [List.any_cons, Bool.or_eq_true, decide_eq_true_eq, not_or] at h
      rw [List.cons_append, lk_cons, ih (by simpa using h.2), lk_cons]
      by_cases hj : j = k
      · rw [if_neg (by rw [hj]; exact Ne.symm h.1), if_pos hj, if_pos hj]
      · rw [if_neg hj, if_neg hj]
theorem reTab_lookup (t : List (Int × Int)) (j : Int) (l : List Int) : (reTab t l).lookup j = if j ∈ l then some ((t.lookup j).getD 0) else none := by
  have h : ∀ (l : List Int) (a : List (Int × Int)), (l.foldl (fun a k => putI k ((t.lookup k).getD 0) a) a).lookup j = if j ∈ l then some ((t.lookup j).getD 0) else a.lookup j := by
    intro l
    induction l with
    | nil => intro a; simp
    | cons k r ih =>
      intro a
      rw [List.foldl_cons, ih, putI_lookup]
      by_cases hj : j = k
      · subst hj; simp
      · by_cases hr : j ∈ r
        · simp [hr]
        · simp [hr, hj]
  have := h l []
  simpa [reTab] using this
theorem lookup_keys (t : List (Int × Int)) (j : Int) : j ∈ t.map (·.1) ↔ (t.lookup j).isSome = true := by
  induction t with
  | nil => simp
  | cons p r ih =>
    rw [List.map_cons, List.mem_cons, List.lookup_cons, ih]
    by_cases h : j = p.1
    · simp [h]
    · have e : (j == p.1) = false := by simpa using h
      simp [e, h]
/-- such a dict built out of all of t's keys answers as t does -/
theorem reTab_all (t : List (Int × Int)) (j : Int) : (reTab t (t.map (·.1))).lookup j = t.lookup j := by
  rw [reTab_lookup]
  by_cases h : j ∈ t.map (·.1)
  · rw [if_pos h]
    cases e : t.lookup j with
    | none => rw [lookup_keys, e] at h; cases h
    | some x => rfl
  · rw [if_neg h]
    cases e : t.lookup j with
    | none => rfl
    | some x => exact absurd ((lookup_keys t j).mpr (by rw [e]; rfl)) h
theorem reTab_len (t : List (Int × Int)) (l : List Int) : (reTab t l).length ≤ l.length := by
  have h : ∀ (l : List Int) (a : List (Int × Int)), (l.foldl (fun a k => putI k ((t.lookup k).getD 0) a) a).length ≤ a.length + l.length := by
    intro l
    induction l with
    | nil => intro a; simp
    | cons k r ih =>
      intro a
      rw [List.foldl_cons]
      have := ih (putI k ((t.lookup k).getD 0) a)
      have := putI_length k ((t.lookup k).getD 0) a
      rw [List.length_cons]; omega
  have := h l []
  simpa [reTab] using this

/-- where a dict of the ledger is gone through for a new dict with the same keys -/
inductive SrcI (prog : Program) (w : World) (A : Around) (h₀ : Heap) (L : Addr) (m : Str → Option Value) (env : Env) (kx vx : PySem.Expr) (ifs : List PySem.Expr) (x : Str) (scope : Scope) (cl : List (Str × Addr)) (Q : Value → Shared → Prop) (xv : Value) (s₁ : Shared) : Prop
  | mk (d : Addr) (o : Obj) (l : List (Int × Int)) (news : List (Addr × Obj)) (_ : xv = .ref d) (_ : A.handled = none) (_ : Fr h₀ L s₁.heap m) (_ : News h₀ L s₁.heap news) (_ : (d, o) ∈ news) (_ : (d == sysModules) = false) (_ : IsI prog w o l) (_ : l.length ≤ 1000) (_ : h₀.NoLimit)
    (_ : ∀ C oC j t (s₂ : Shared) m₂ (E' : Value → Shared → Prop), j ∈ l.map (·.1) → NsObj oC m₂ → m₂ x = some (.int j t) → Fr h₀ L s₂.heap m → News h₀ L s₂.heap ((C, oC) :: news) →
      wpAny (model prog w) A (forIn ifs true fun c r => if r = true then do let ok ← isTrue c (compEnvC scope cl C env) (eval c (compEnvC scope cl C env)); pure (ForInStep.yield ok) else pure (ForInStep.yield r))
        (fun ok s₃ => Stop (ok = true ∧ ∃ tk', s₃ = { s₂ with toks := tk' })) E' s₂)
    (_ : ∀ C oC j t (s₂ : Shared) m₂ (E' : Value → Shared → Prop), j ∈ l.map (·.1) → NsObj oC m₂ → m₂ x = some (.int j t) → Fr h₀ L s₂.heap m → News h₀ L s₂.heap ((C, oC) :: news) →
      wpAny (model prog w) A (eval kx (compEnvC scope cl C env)) (fun k s₃ => Stop ((∃ t', k = .int j t') ∧ ∃ tk', s₃ = { s₂ with toks := tk' })) E' s₂)
    (_ : ∀ C oC j t (s₂ : Shared) m₂ (E' : Value → Shared → Prop), j ∈ l.map (·.1) → NsObj oC m₂ → m₂ x = some (.int j t) → Fr h₀ L s₂.heap m → News h₀ L s₂.heap ((C, oC) :: news) →
      wpAny (model prog w) A (eval vx (compEnvC scope cl C env)) (fun y s₃ => Stop ((∃ t', y = .int ((l.lookup j).getD 0) t') ∧ ∃ tk', s₃ = { s₂ with toks := tk' })) E' s₂)
    (_ : ∀ D o' h' tk', Fr h₀ L h' m → News h₀ L h' ((D, o') :: news) → (∀ p ∈ news, p.1 < D) → (D == sysModules) = false → IsI prog w o' (reTab l (l.map (·.1))) → Q (.ref D) { s₁ with heap := h', toks := tk' }) : SrcI prog w A h₀ L m env kx vx ifs x scope cl Q xv s₁

theorem ltN {h : Heap} {b : Nat} {ob : Obj} (e : h.get? b = some ob) : b < h.objs.size := Heap.lt_size e
theorem neI {a b : Nat} (h : a ≠ b) : a ∉ [b] := fun x => h (List.mem_singleton.mp x)
theorem neI2 {a b c : Nat} (h : a ≠ b) (h' : a ≠ c) : a ∉ [b, c] := fun x => (List.mem_cons.mp x).elim h fun x => h' (List.mem_singleton.mp x)
theorem nsObj_of {h : Heap} {C : Addr} {m₂ : Str → Option Value} (x : h.Ns C m₂) : ∃ oC, h.get? C = some oC ∧ NsObj oC m₂ := by
  obtain ⟨o, es, ep, ho, r⟩ := x
  exact ⟨o, ho, es, ep, r⟩
theorem areOf_at {vs : List Value} {l : List (Int × Int)} (hl : vs.length = l.length) (h : ∀ (j : Nat) (v : Value), vs[j]? = some v → ∃ p : Int × Int, l[j]? = some p ∧ ∃ t : Tok, v = Value.int p.1 t) : AreOf ItemKind.int vs (l.map (·.1)) :=
  IntsAre.areOf (kdy_ints (by rw [hl, List.length_map]) fun j v hv => by
    obtain ⟨p, hp, t, e⟩ := h j v hv
    exact ⟨p.1, by rw [List.getElem?_map, hp]; rfl, t, e⟩)
theorem DictComp_I {kx vx iter : PySem.Expr} {x : Str} {px : Pos} {ifs : List PySem.Expr} {scope : Scope} {cl : List (Str × Addr)} {pos : Pos} {Q : Value → Shared → Prop} (F₀ : Fr h₀ L s.heap m)
    (hclos : closureFor scope env = pure cl) (hcell : ∀ y ∈ scope.names, y.2 ≠ .cell) (hkind : scope.kind = .function)
    (hnames : ∀ y ∈ scope.names, y.2 = .local → scope.names.lookup y.1 = some .local) (hx : scope.names.lookup x = some .local)
    (h : wpAny (model prog w) A (eval iter env) (fun v s₁ => Stop (SrcI prog w A h₀ L m env kx vx ifs x scope cl Q v s₁)) E s)
    (hs : ∀ x, foldedSetIterable iter env x = pure x := by intro _; rfl) :
    wpAny (model prog w) A (eval (.DictComp kx vx [⟨.Name x px, iter, ifs, 0⟩] scope pos) env) Q E s := by
  rw [arm_eval_DictComp]
  refine wpAny_comprehension_free (use := none) rfl hs hclos hkind hnames (wpAny_mono h (fun xv s₁ h₁ => ?_) fun _ _ e => e)
  obtain ⟨d, o, l, news, rfl, hh, F, N, hm, hd0, hI, hz, hlim, htests, hkey, hval, hQ⟩ := h₁
  obtain ⟨kvs, hO, hf⟩ := hI
  have hlen : kvs.length = l.length := by rw [← hf.length, encD, List.length_map]
  have hD0 : s₁.heap.DictOf (intKind prog w) d kvs := Heap.dictOf_iff.mpr ⟨o, N.get hm, hO⟩
  obtain ⟨ep, hat⟩ := hD0.dictAt
  have hlt := ltN (N.get hm)
  refine wpAny_pyIter_dict hd0 hat ?_
  have hitI : (s₁.heap.push { cls := .type "dict_keyiterator", data := .fields #[.ref d, .int 0 0, .int kvs.length 0, .int ep 0] }).IsKeyIter s₁.heap.objs.size d 0 kvs.length ep := ⟨_, Heap.get?_push_size _ rfl, rfl, rfl⟩
  have hatI : (s₁.heap.push { cls := .type "dict_keyiterator", data := .fields #[.ref d, .int 0 0, .int kvs.length 0, .int ep 0] }).DictAt (intKind prog w) d kvs ep := hat.at' fun o e => Heap.get?_push_of_some _ e
  have FI : Fr h₀ L (s₁.heap.push { cls := .type "dict_keyiterator", data := .fields #[.ref d, .int 0 0, .int kvs.length 0, .int ep 0] }) m := F.push _
  have NI : News h₀ L (s₁.heap.push { cls := .type "dict_keyiterator", data := .fields #[.ref d, .int 0 0, .int kvs.length 0, .int ep 0] }) news := N.grown fun b o e => Heap.get?_push_of_some _ e
  have hI1 : (s₁.heap.push { cls := .type "dict_keyiterator", data := .fields #[.ref d, .int 0 0, .int kvs.length 0, .int ep 0] }).objs.size = s₁.heap.objs.size + 1 := Heap.size_push ..
  generalize hH1 : s₁.heap.push { cls := .type "dict_keyiterator", data := .fields #[.ref d, .int 0 0, .int kvs.length 0, .int ep 0] } = H1 at hitI hatI FI NI hI1 ⊢
  refine wpAny_newObj_type ?_
  dsimp only
  have hnew : (H1.push { cls := .type "dict", dict := none, data := .dict #[] }).DictOf (intKind prog w) H1.objs.size [] := Heap.DictOf.new H1
  have FD : Fr h₀ L (H1.push { cls := .type "dict", dict := none, data := .dict #[] }) m := FI.push _
  have keep1 : ∀ b ob, H1.get? b = some ob → (H1.push { cls := .type "dict", dict := none, data := .dict #[] }).get? b = some ob := fun b ob e => Heap.get?_push_of_some _ e
  have hs2 : (H1.push { cls := .type "dict", dict := none, data := .dict #[] }).objs.size = H1.objs.size + 1 := Heap.size_push ..
  have loD : (H1.objs.size == sysModules) = false := FI.notModules (modules_low hlim)
  have nD : h₀.get? H1.objs.size = none := next_is_new FI
  have nDL : H1.objs.size ≠ L := Nat.ne_of_gt FI.ns.lt
  have nD' : s₁.heap.objs.size < H1.objs.size := by omega
  generalize H1.push { cls := .type "dict", dict := none, data := .dict #[] } = H2 at hnew FD keep1 hs2 ⊢
  have nC : h₀.get? H2.objs.size = none := next_is_new FD
  have nCL : H2.objs.size ≠ L := Nat.ne_of_gt FD.ns.lt
  refine wpAny_newFunctionEnv hcell (by intro y hy; simp at hy) (fun h₁ hns₁ hsb₁ => ?_) hkind
  dsimp only at hns₁ hsb₁ ⊢
  have old : ∀ b ob, H1.get? b = some ob → h₁.get? b = some ob := fun b ob e => hsb₁.extBut b ob (neN (by have := ltN e; omega)) (Heap.get?_push_of_some _ (keep1 b ob e))
  have hacc : h₁.DictOf (intKind prog w) H1.objs.size [] := hnew.at fun ob e => hsb₁.extBut _ _ (neN (by omega)) (Heap.get?_push_of_some _ e)
  have F1 : Fr h₀ L h₁ m := FI.keeps old
  have N1 : News h₀ L h₁ news := NI.grown old
  have W : Walks prog w A s₁.heap.objs.size [s₁.heap.objs.size, d] [s₁.heap.objs.size] kvs.length (fun i v => ∃ k x, kvs[i]? = some (k, x) ∧ (intKind prog w).is k v = true) (fun i h => h.IsKeyIter s₁.heap.objs.size d i kvs.length ep ∧ h.DictAt (intKind prog w) d kvs ep) :=
    Walks.dictKeys hh _ d (Nat.ne_of_lt hlt) kvs ep
  have st1 : h₁.IsKeyIter s₁.heap.objs.size d 0 kvs.length ep ∧ h₁.DictAt (intKind prog w) d kvs ep := ⟨hitI.at fun ob e => old _ ob e, hatI.at' fun ob e => old _ ob e⟩
  have keyAt : ∀ (i : Nat) (v : Value), (∃ k x, kvs[i]? = some (k, x) ∧ (intKind prog w).is k v = true) → ∃ p : Int × Int, l[i]? = some p ∧ ∃ t : Tok, v = Value.int p.1 t := by
    rintro i v ⟨k, y, hy, hk⟩
    obtain ⟨dv, hd', _⟩ := hf.at hy
    have hd2 : (l[i]?).map encQ = some (PyData.int k, dv) := by rw [← List.getElem?_map]; exact hd'
    cases hc : l[i]? with
    | none => rw [hc] at hd2; cases hd2
    | some p =>
      rw [hc] at hd2
      have e1 : PyData.int p.1 = PyData.int k := congrArg Prod.fst (Option.some.inj hd2)
      injection e1 with e1
      obtain ⟨t, rfl⟩ := Value.isInt_shape hk
      exact ⟨p, rfl, t, by rw [e1]⟩
  have ground : ∀ (s₂ : Shared) m₂, s₂.heap.Ns H2.objs.size m₂ → (∀ b ob, b ≠ H2.objs.size → b ∉ [s₁.heap.objs.size] → b ≠ H1.objs.size → h₁.get? b = some ob → s₂.heap.get? b = some ob) →
      ∃ oC, NsObj oC m₂ ∧ Fr h₀ L s₂.heap m ∧ News h₀ L s₂.heap ((H2.objs.size, oC) :: news) := by
    intro s₂ m₂ hn hk
    obtain ⟨oC, hC, hO⟩ := nsObj_of hn
    have k0 : ∀ b ob, s₁.heap.get? b = some ob → s₂.heap.get? b = some ob := fun b ob e => by
      have := ltN e
      exact hk b ob (neN (by omega)) (neI (by omega)) (neN (by omega)) (old b ob (hH1 ▸ Heap.get?_push_of_some _ e))
    refine ⟨oC, hO, F.keeps k0, fun p hp => ?_⟩
    rcases List.mem_cons.mp hp with rfl | hp
    · exact ⟨hC, nCL, nC⟩
    · exact N.grown k0 p hp
  have inK : ∀ (i : Nat) (p : Int × Int), l[i]? = some p → p.1 ∈ l.map (·.1) := fun i p hp => List.mem_map.mpr ⟨p, List.mem_of_getElem? hp, rfl⟩
  have nl : kvs.length ≤ sizeLine := by rw [hlen, sizeLine_eq]; omega
  have loop : codeAny (model prog w) A (.compLoop (.DictComp kx vx [⟨.Name x px, iter, ifs, 0⟩] scope pos) 0 (.ref s₁.heap.objs.size) (.ref H1.objs.size) (compEnvC scope cl H2.objs.size env))
      (compPost (model prog w) A E none Q (.ref H1.objs.size) H2.objs.size) { s₁ with heap := h₁, toks := s₁.toks + ([] : List (Str × Value)).length } := by
    refine codeAny_compLoop_walkD (hsz := nl) (knd := intKind prog w) (cenv := compEnvC scope cl H2.objs.size env) W (fun _ => true)
      (fun v k => ∃ a, ItemKind.int.is a v ∧ k = a) (fun v y => ∃ a, ItemKind.int.is a v ∧ Carried y (PyData.int ((l.lookup a).getD 0)))
      (lookup_relabel_local hx) (by simp [compEnvC, relabel, hkind]) (neN (by show @Ne Nat H1.objs.size H2.objs.size; omega)) (neI2 (by omega) (by omega)) (neI2 (by show H2.objs.size ≠ _; omega) (by show H2.objs.size ≠ _; omega)) st1 hacc hns₁ ?_ ?_ ?_ ?_
    · intro i v s₂ m₂ hv hn hm2 hk
      obtain ⟨p, hp, t, rfl⟩ := keyAt i v hv
      obtain ⟨oC, hO, F2, N2⟩ := ground s₂ m₂ hn hk
      refine wpAny_mono (htests H2.objs.size oC p.1 t s₂ m₂ _ (inK i p hp) hO hm2 F2 N2) (fun ok s₃ h₃ => ?_) fun _ _ e => e
      obtain ⟨e, tk', rfl⟩ := h₃
      exact ⟨e, s₂.heap, tk', rfl, fun _ _ e => e⟩
    · intro i v s₂ m₂ hv _ hn hm2 hk
      obtain ⟨p, hp, t, rfl⟩ := keyAt i v hv
      obtain ⟨oC, hO, F2, N2⟩ := ground s₂ m₂ hn hk
      refine wpAny_mono (hkey H2.objs.size oC p.1 t s₂ m₂ _ (inK i p hp) hO hm2 F2 N2) (fun ok s₃ h₃ => ?_) fun _ _ e => e
      obtain ⟨⟨t', rfl⟩, tk', rfl⟩ := h₃
      exact ⟨⟨p.1, intKind_is _ _ _ _, p.1, ⟨t, rfl⟩, rfl⟩, s₂.heap, tk', rfl, fun _ _ e => e⟩
    · intro i v s₂ m₂ hv _ hn hm2 hk
      obtain ⟨p, hp, t, rfl⟩ := keyAt i v hv
      obtain ⟨oC, hO, F2, N2⟩ := ground s₂ m₂ hn hk
      refine wpAny_mono (hval H2.objs.size oC p.1 t s₂ m₂ _ (inK i p hp) hO hm2 F2 N2) (fun ok s₃ h₃ => ?_) fun _ _ e => e
      obtain ⟨⟨t', rfl⟩, tk', rfl⟩ := h₃
      exact ⟨⟨p.1, ⟨t, rfl⟩, .int _ _⟩, s₂.heap, tk', rfl, fun _ _ e => e⟩
    · intro h' tk m' kvs' vs hn hl hlv hP hF hk
      have hvs : vs.filter (fun _ => true) = vs := List.filter_eq_self.mpr fun _ _ => rfl
      rw [hvs] at hF
      have k0 : ∀ b ob, s₁.heap.get? b = some ob → h'.get? b = some ob := fun b ob e => by
        have := ltN e
        exact hk b ob (neN (by show @Ne Nat b H2.objs.size; omega)) (neI (by omega)) (neN (by omega)) (old b ob (hH1 ▸ Heap.get?_push_of_some _ e))
      refine ⟨m', hn, fun h'' hs'' => ?_⟩
      have k1 : ∀ b ob, s₁.heap.get? b = some ob → h''.get? b = some ob := fun b ob e => by
        have := ltN e
        exact hs''.extBut b ob (neN (by show @Ne Nat b H2.objs.size; omega)) (k0 b ob e)
      have hl2 : h''.DictOf (intKind prog w) H1.objs.size kvs' := hl.extBut hs''.extBut (neN (by show @Ne Nat H1.objs.size H2.objs.size; omega))
      obtain ⟨oD, hoD, hO2⟩ := Heap.dictOf_iff.mp hl2
      refine hQ H1.objs.size oD h'' tk (F.keeps k1) (fun p hp => ?_) (fun p hp => Nat.lt_trans (Heap.lt_size (N p hp).1) nD') loD ⟨kvs', hO2, ?_⟩
      · rcases List.mem_cons.mp hp with rfl | hp
        · exact ⟨hoD, nDL, nD⟩
        · exact N.grown k1 p hp
      · rw [← putAll_re]
        exact storedAll_flat same_int hF _ (areOf_at (hlv.trans hlen) fun j v hv => keyAt j v (hP j v hv))
  exact codeAny_compStart_dict loop (W.self 0 _ _ _ st1 loop)
end
end Mine
namespace Mine
/-- the law's own record, read off the head -/
noncomputable def recOf {q : Program} {loose : List Str} {XP : (Str → Option Value) → Heap → Prop} {YP : World → Heap → Prop} {r : RowW} {d : DefRec} {kwd : List (Str × PySem.Expr)} {run : Value → List Value → Sem Value} {P : Prop} (_ : WalkO q loose XP YP r d kwd run → P) : DefRec := d
noncomputable def lawRec : DefRec := recOf Mine.hd
noncomputable def lawPart (k n : Nat) : List Stmt := (lawRec.body.drop k).take n
noncomputable abbrev lawEnv (L CC fa : Addr) (ccd : Value) : Env := envX (Str.ofString "law") lawRec.scope L fa ccd [(Str.ofString "table", CC)]
noncomputable abbrev lawTop (dp un : Nat) (gd : Option (List Code)) (L CC fa : Addr) (ccd : Value) (outer : List Env) : Around := ktrTop dp un gd (Str.ofString "law") lawRec.scope L fa ccd [(Str.ofString "table", CC)] outer
section
variable {prog : Program} {w : World} {p : Program} {loose : List Str} {mean : ExcName → Option Value} {mg mb : Str → Option Value}
  {dp un : Nat} {gd : Option (List Code)} {cn : Str} {cs : Scope} {a : Addr} {ccd : Value} {cl : List (Str × Addr)} {outer : List Env} {A₀ : Around} {base h₀ : Heap} {L : Addr} {m : Str → Option Value} {news : List (Addr × Obj)} {s : Shared} {Q E : Value → Shared → Prop}
/-- the draw, the pool's object a letter -/
theorem draw_P {P C : Addr} {oP oC : Obj} {k : Nat} {most : Int} {tm : Tok} {upd : Obj → List (Addr × Obj)}
    (B : Below A₀ base outer h₀) (F : Fr h₀ L s.heap m) (X : (Mine.hd.heap_39 w.params).In h₀) (N : News h₀ L s.heap news)
    (T : Top p loose mean mg mb h₀) (hk : cs.kind = .function)
    (U : UpdF P oP news upd) (hp : PoolOk oP C k) (hC : (C, oC) ∈ news) (hc : CellsOk oC)
    (hPC : @Ne Nat P C) (h1 : k ≤ 1000) (hm : 0 < most) (hm2 : most ≤ 100)
    (hdp : dp + 1 < recursionLimit)
    (hret : ∀ (d : Int) td oP' h' tk', Fr h₀ L h' m → News h₀ L h' (upd oP') → PoolOk oP' C (k + 1) → 0 ≤ d → d < most → Q (.int d td) { s with heap := h', toks := tk' }) :
    wpAny (model prog w) (ktrTop dp un gd cn cs L a ccd cl outer) (call (.ref 210) [.ref P, .int most tm]) Q E s := by
  obtain ⟨g, t1, st, t2, pl, t3, n, rfl, p1, p2, p3, p4⟩ := hp
  obtain ⟨vs, xs, nc, rfl, hi, hl⟩ := hc
  refine draw_K B F X N T hk U hC hPC hi hl p1 (by omega) p3 p4 hm hm2 hdp ?_
  intro d td g' u1 st' u2 u3 h' tk' F' N' a1 a2 a3 a4
  exact hret d td _ h' tk' F' N' ⟨_, _, _, _, _, _, _, rfl, by omega, by push_cast; omega, a3, a4⟩ a1 a2
theorem box_P {l : Addr} {vs : List Value} {ns : List Int}
    (B : Below A₀ base outer h₀) (F : Fr h₀ L s.heap m) (X : (Mine.hd.heap_39 w.params).In h₀) (N : News h₀ L s.heap news)
    (T : Top p loose mean mg mb h₀) (hk : cs.kind = .function)
    (hl : base.IsList l vs.toArray) (hi : IntsAre vs ns) (hlen : ns.length ≤ 63)
    (hdp : dp + 4 < recursionLimit)
    (hret : ∀ P C oP oC h' tk', Fr h₀ L h' m → News h₀ L h' ((P, oP) :: (C, oC) :: news) → AllNe P news → AllNe C news → @Ne Nat P C → PoolOk oP C 0 → CellsOk oC → Q (.ref P) { s with heap := h', toks := tk' }) :
    wpAny (model prog w) (ktrTop dp un gd cn cs L a ccd cl outer) (call (.ref 203) [.ref l]) Q E s :=
  box_K B F X N T hk hl hi hlen hdp fun x c ws xs nc g t1 st t2 t3 h' tk' F' N' n1 n2 n3 i1 l1 a1 a2 =>
    hret x c _ _ h' tk' F' N' n1 n2 n3 ⟨_, _, _, _, _, _, _, rfl, Int.le_refl _, Int.le_refl _, a1, a2⟩ ⟨_, _, _, rfl, i1, l1⟩
/-- what a frame's names hold -/
def Names (m : Str → Option Value) (l : List (Str × Value)) : Prop := ∀ q ∈ l, m q.1 = some q.2
theorem names_nil {m : Str → Option Value} : Names m [] := all_nil
theorem names_cons {m : Str → Option Value} {x : Str} {v : Value} {l : List (Str × Value)} (h : m x = some v) (r : Names m l) : Names m ((x, v) :: l) := all_cons h r
/-- addresses each apart from the others and from a rest of the ledger -/
def NeL (d : Nat) : List Addr → Prop
  | [] => True
  | b :: r => @Ne Nat d b ∧ NeL d r
def Sep (tl : List (Addr × Obj)) : List Addr → Prop
  | [] => True
  | d :: r => NeL d r ∧ AllNe d tl ∧ Sep tl r
/-- the parts of it, one behind the other -/
def NeK (d : Nat) (G : Prop) : List Addr → Prop
  | [] => G
  | b :: r => @Ne Nat d b → NeK d G r
def SepK (tl : List (Addr × Obj)) (G : Prop) : List Addr → Prop
  | [] => G
  | d :: r => NeK d (AllNe d tl → SepK tl G r) r
theorem neE {d : Nat} {G : Prop} : ∀ {l : List Addr}, NeL d l → NeK d G l → G
  | [], _, k => k
  | _ :: _, h, k => neE h.2 (k h.1)
theorem sepE {tl : List (Addr × Obj)} {G : Prop} : ∀ {l : List Addr}, Sep tl l → SepK tl G l → G
  | [], _, k => k
  | _ :: _, h, k => sepE h.2.2 (neE h.1 k h.2.1)
theorem ownAll {own : List (Addr × Obj)} {adr : List Addr} {d : Addr} (h : OwnOff own adr) (hd : d ∈ adr) : AllNe d own := allNe_of (h.ne hd)
theorem Sep.own {tl own : List (Addr × Obj)} {adr : List Addr} (h : OwnOff own adr) : ∀ {l : List Addr}, (∀ d ∈ l, d ∈ adr) → Sep tl l → Sep (tl ++ own) l
  | [], _, _ => trivial
  | _ :: _, hs, ⟨a, b, c⟩ => ⟨a, allNe_append b (ownAll h (hs _ (.head _))), Sep.own h (fun d hd => hs d (.tail _ hd)) c⟩
theorem Sep.left {tl own : List (Addr × Obj)} : ∀ {l : List Addr}, Sep (tl ++ own) l → Sep tl l
  | [], _ => trivial
  | _ :: _, ⟨a, b, c⟩ => ⟨a, b.left, c.left⟩
theorem turnEndG {h₀ : Heap} {L : Addr} {s₁ : Shared} {m' : Str → Option Value} {J : (Str → Option Value) → List (Addr × Obj) → Prop} {all nx own : List (Addr × Obj)} {h' : Heap} {tk : Nat} (F : Fr h₀ L h' m') (N : News h₀ L h' all)
    (hn : ∀ p ∈ nx, p ∈ all) (ho : ∀ p ∈ own, p ∈ all) (ha : OwnOff own (nx.map (·.1))) (hj : J m' nx) : InvEndG h₀ L J own s₁ { s₁ with heap := h', toks := tk } := InvEndG.intro F N hj ha hn ho
theorem pairAt_K {prog : Program} {w : World} {A : Around} {E Q : Value → Shared → Prop} {h₀ : Heap} {L PP : Addr} {s : Shared} {news tl : List (Addr × Obj)} {value slice : PySem.Expr} {vP : List Value} {nP : Nat} {ps : List (Int × Int)} {d : Int} {t : Tok}
    (N : News h₀ L s.heap news) (hm : (PP, listOf vP.toArray nP) ∈ news) (hd : DatAll tl vP (ps.map pairDat)) (hsub : ∀ q ∈ tl, q ∈ news) (h0 : 0 ≤ d) (h1 : d < (vP.length : Int)) (hz : vP.length ≤ 1000)
    (h : ∀ q a t u, q ∈ ps → IsTup s.heap a #[.int q.1 t, .int q.2 u] → Q (.ref a) s)
    (hs : subscripted slice false (.ref PP) (.int d t) = operate [.ref PP, .int d t] (getItem (.ref PP) (.int d t))) : wpAny (model prog w) A (subscriptTail value slice (.ref PP) (.int d t)) Q E s := by
  have hl : s.heap.IsList PP vP.toArray := ⟨_, (N _ hm).1, rfl, _, rfl⟩
  have hlt : d.toNat < vP.length := by omega
  obtain ⟨q, a, t1, u1, n, hq, hv, ht⟩ := pairs_get hd (List.getElem?_eq_getElem hlt)
  refine tail_any hl.typeIs slot_list_getitem.lookup (wpAny_getItem_list hl h0 (by omega) (x := vP[d.toNat]) (by simp [hlt]) ?_) hs
  rw [hv]
  exact h q a t1 u1 (List.mem_of_getElem? hq) (News.isTup N (hsub _ ht))
theorem lenL_K {prog : Program} {w : World} {A : Around} {E Q : Value → Shared → Prop} {h₀ : Heap} {L l : Addr} {s : Shared} {news : List (Addr × Obj)} {vs : List Value} {n k : Nat}
    (N : News h₀ L s.heap news) (hm : (l, listOf vs.toArray n) ∈ news) (hk : vs.length = k) (hz : k ≤ 100000) (h : ∀ t tk, Q (.int (k : Int) t) { s with toks := tk }) : wpAny (model prog w) A (call (.builtin "len") [.ref l]) Q E s := by
  subst hk
  exact Calls.call_len_list (News.isList N hm) (by rw [List.size_toArray]; omega) (by rw [List.size_toArray]; exact h _ _)
theorem itemInts_K {prog : Program} {w : World} {A : Around} {E Q : Value → Shared → Prop} {h₀ : Heap} {L l : Addr} {s : Shared} {news : List (Addr × Obj)} {value slice : PySem.Expr} {vs : List Value} {ns : List Int} {nP : Nat} {d : Int} {t : Tok}
    (N : News h₀ L s.heap news) (hm : (l, listOf vs.toArray nP) ∈ news) (hi : IntsAre vs ns) (h0 : 0 ≤ d) (h1 : d < (ns.length : Int)) (hz : ns.length ≤ 1000)
    (h : ∀ n u, ns[d.toNat]? = some n → Q (.int n u) s)
    (hs : subscripted slice false (.ref l) (.int d t) = operate [.ref l, .int d t] (getItem (.ref l) (.int d t))) : wpAny (model prog w) A (subscriptTail value slice (.ref l) (.int d t)) Q E s := by
  have hl : s.heap.IsList l vs.toArray := ⟨_, (N _ hm).1, rfl, _, rfl⟩
  have hlt : d.toNat < vs.length := by rw [hi.length]; omega
  obtain ⟨n, u, hn, hv⟩ := ints_get hi (List.getElem?_eq_getElem hlt)
  refine tail_any hl.typeIs slot_list_getitem.lookup (wpAny_getItem_list hl h0 (by omega) (x := vs[d.toNat]) (by simp [hlt]) ?_) hs
  rw [hv]
  exact h n u hn
theorem fr_overIn {h₀ h : Heap} {L : Addr} {m : Str → Option Value} {x : Str} {v : Option Value} {l : List (Str × Value)} (hl : Names m l) (F : Fr h₀ L h (fun y => if y = x then v else m y)) : Fr h₀ L h (fun y => if y = x then v else over l m y) := by
  rw [over_eq hl]; exact F
theorem PoolOk.mono {o : Obj} {C : Addr} {k k' : Nat} (h : PoolOk o C k) (hk : k ≤ k') : PoolOk o C k' := by
  obtain ⟨g, t1, st, t2, pl, t3, n, e, a, b, c⟩ := h
  exact ⟨g, t1, st, t2, pl, t3, n, e, a, Int.le_trans b (Int.ofNat_le.mpr hk), c⟩
theorem names_sub {m : Str → Option Value} {l l' : List (Str × Value)} (nm : Names m l) (h : ∀ q ∈ l', q ∈ l) : Names m l' := fun q hq => nm q (h q hq)
theorem names_same {m : Str → Option Value} {l all : List (Str × Value)} (nml : Names m l) (nm : Names m all) : Names (over l m) all := by rw [over_eq nml]; exact nm
/-- the names behind a store of another one -/
theorem names_over {l all : List (Str × Value)} {m : Str → Option Value} {x : Str} {v : Option Value} (nml : Names m l) (nm : Names m all) (hx : (all.map (·.1)).all (fun y => !decide (y = x)) = true) : Names (fun y => if y = x then v else over l m y) all := fun q hq => by
  have z := List.all_eq_true.mp hx q.1 (List.mem_map_of_mem hq)
  have z' : q.1 ≠ x := by simpa using z
  rw [over_eq nml]
  exact (if_neg z').trans (nm q hq)
theorem ints_snoc {vs : List Value} {ns : List Int} (h : IntsAre vs ns) (n : Int) (t : Tok) : IntsAre (vs ++ [.int n t]) (ns ++ [n]) := by
  induction h with
  | nil => exact .cons n t .nil
  | cons k u _ ih => exact .cons k u ih
theorem cons_sub {a : Addr × Obj} {r r' : List (Addr × Obj)} (h : ∀ p ∈ r, p ∈ r') : ∀ p ∈ a :: r, p ∈ a :: r' := fun p hp => by
  rcases List.mem_cons.mp hp with rfl | hp
  · exact .head _
  · exact .tail _ (h p hp)
theorem cons_in {a : Addr × Obj} {r r' : List (Addr × Obj)} (h : ∀ p ∈ r, p ∈ r') : ∀ p ∈ r, p ∈ a :: r' := fun p hp => .tail _ (h p hp)
theorem app_l {r r' : List (Addr × Obj)} : ∀ p ∈ r, p ∈ r ++ r' := fun _ hp => List.mem_append.mpr (.inl hp)
theorem app_r {r r' : List (Addr × Obj)} : ∀ p ∈ r', p ∈ r ++ r' := fun _ hp => List.mem_append.mpr (.inr hp)
theorem zipOff {I : Addr} {news : List (Addr × Obj)} {a b c d e : Obj} (lI : ∀ p ∈ news, p.1 < I) : ∀ p ∈ news, ∀ q ∈ ([(I + 4, a), (I + 2, b), (I + 3, c), (I, d), (I + 1, e)] : List (Addr × Obj)), p.1 ≠ q.1 := fun p hp q hq => by
  have h : @LT.lt Nat _ p.1 I := lI p hp
  have g : @LE.le Nat _ I q.1 := by
    simp only [List.mem_cons, List.not_mem_nil, or_false] at hq
    rcases hq with rfl | rfl | rfl | rfl | rfl
    · exact Nat.le_add_right _ _
    · exact Nat.le_add_right _ _
    · exact Nat.le_add_right _ _
    · exact Nat.le_refl _
    · exact Nat.le_add_right _ _
  exact Nat.ne_of_lt (Nat.lt_of_lt_of_le h g)
theorem zipEnd {h₀ : Heap} {L : Addr} {s₁ : Shared} {m' : Str → Option Value} {its news : List (Addr × Obj)} {r : (Str → Option Value) → List (Addr × Obj) → Prop} {h' : Heap} {tk : Nat} (F : Fr h₀ L h' m') (N : News h₀ L h' (its ++ news))
    (off : ∀ p ∈ news, ∀ q ∈ its, p.1 ≠ q.1) (hr : r m' news) : UnrEndW h₀ L s₁ its r { s₁ with heap := h', toks := tk } := ⟨h', tk, m', news, rfl, F, N, off, hr⟩
noncomputable abbrev names6 (OT CO : Addr) (b : Bool) (PP P : Addr) : List (Str × Value) := [(Str.ofString "others", .ref OT), (Str.ofString "codes", .ref CO), (Str.ofString "is_backward", .bool b), (Str.ofString "pairs", .ref PP), (Str.ofString "pool", .ref P)]
/-- a code and what it is turned about into -/
def GoodZ (z : Int × Int) : Prop := mirOf z.1 = z.2 ∧ mirOf z.2 = z.1
/-- the table written out -/
noncomputable def mirE : List (Int × Int) := [(60, 62), (62, 60), (91, 93), (93, 91), (123, 125), (125, 123), (171, 187), (187, 171), (8712, 8715), (8715, 8712), (8713, 8716), (8716, 8713), (8714, 8717), (8717, 8714), (65124, 65125), (65125, 65124), (65308, 65310), (65310, 65308), (65339, 65341), (65341, 65339), (65371, 65373), (65373, 65371), (40, 41), (41, 40), (8249, 8250), (8250, 8249), (8261, 8262), (8262, 8261), (8317, 8318), (8318, 8317), (8333, 8334), (8334, 8333), (8804, 8805), (8805, 8804), (8806, 8807), (8807, 8806), (8808, 8809), (8809, 8808), (8810, 8811), (8811, 8810), (8814, 8815), (8815, 8814), (8816, 8817), (8817, 8816), (8818, 8819), (8819, 8818), (8820, 8821), (8821, 8820), (8822, 8823), (8823, 8822), (8824, 8825), (8825, 8824), (8826, 8827), (8827, 8826), (8828, 8829), (8829, 8828), (8830, 8831), (8831, 8830), (8832, 8833), (8833, 8832), (8834, 8835), (8835, 8834), (8836, 8837), (8837, 8836), (8838, 8839), (8839, 8838), (8840, 8841), (8841, 8840), (8842, 8843), (8843, 8842), (8847, 8848), (8848, 8847), (8849, 8850), (8850, 8849), (8866, 8867), (8867, 8866), (8905, 8906), (8906, 8905), (8907, 8908), (8908, 8907), (8912, 8913), (8913, 8912), (8918, 8919), (8919, 8918), (8920, 8921), (8921, 8920), (8922, 8923), (8923, 8922), (8924, 8925), (8925, 8924), (8926, 8927), (8927, 8926), (8928, 8929), (8929, 8928), (8930, 8931), (8931, 8930), (8932, 8933), (8933, 8932), (8934, 8935), (8935, 8934), (8936, 8937), (8937, 8936), (8938, 8939), (8939, 8938), (8940, 8941), (8941, 8940), (8968, 8969), (8969, 8968), (8970, 8971), (8971, 8970), (9001, 9002), (9002, 9001), (10088, 10089), (10089, 10088), (10090, 10091), (10091, 10090), (10092, 10093), (10093, 10092), (10094, 10095), (10095, 10094), (10096, 10097), (10097, 10096), (10098, 10099), (10099, 10098), (10100, 10101), (10101, 10100), (10214, 10215), (10215, 10214), (10216, 10217), (10217, 10216), (10218, 10219), (10219, 10218), (10220, 10221), (10221, 10220), (10222, 10223), (10223, 10222), (10627, 10628), (10628, 10627), (10629, 10630), (10630, 10629), (10631, 10632), (10632, 10631), (10633, 10634), (10634, 10633), (10635, 10636), (10636, 10635), (12296, 12297), (12297, 12296), (12298, 12299), (12299, 12298), (12300, 12301), (12301, 12300), (12302, 12303), (12303, 12302), (12304, 12305), (12305, 12304), (12308, 12309), (12309, 12308), (12310, 12311), (12311, 12310), (12312, 12313), (12313, 12312), (12314, 12315), (12315, 12314), (65113, 65114), (65114, 65113), (65115, 65116), (65116, 65115), (65117, 65118), (65118, 65117), (65288, 65289), (65289, 65288), (65375, 65376), (65376, 65375), (65378, 65379), (65379, 65378)]
set_option maxRecDepth 100000 in
theorem mirT_eq : mirT = mirE := by decide +kernel
set_option maxRecDepth 100000 in
theorem law_goodE : ∀ q ∈ lawPs, (mirE.lookup q.1).getD q.1 = q.2 ∧ (mirE.lookup q.2).getD q.2 = q.1 := by decide +kernel
set_option maxRecDepth 100000 in
theorem plain_goodE : ∀ k ∈ List.range 20, (mirE.lookup (64 + (k : Int))).getD (64 + (k : Int)) = 64 + (k : Int) := by decide +kernel
theorem mirOf_eq (c : Int) : mirOf c = (mirE.lookup c).getD c := by rw [mirOf, mirT_eq]
theorem law_good (q : Int × Int) (h : q ∈ lawPs) : mirOf q.1 = q.2 ∧ mirOf q.2 = q.1 := by rw [mirOf_eq, mirOf_eq]; exact law_goodE q h
theorem plain_good (k : Nat) (h : k ∈ List.range 20) : mirOf (64 + (k : Int)) = 64 + (k : Int) := by rw [mirOf_eq]; exact plain_goodE k h
theorem good_pair {q : Int × Int} (h : q ∈ lawPs) : GoodZ q := law_good q h
theorem good_swap {q : Int × Int} (h : q ∈ lawPs) : GoodZ (q.2, q.1) := ⟨(law_good q h).2, (law_good q h).1⟩
theorem good_plain {d : Int} (h0 : 0 ≤ d) (h1 : d < 20) : GoodZ (64 + d, 64 + d) := by
  have := plain_good d.toNat (List.mem_range.mpr (by omega))
  rw [Int.toNat_of_nonneg h0] at this
  exact ⟨this, this⟩
theorem mirT_len : mirT.length = 176 := by rw [mirT_eq]; rfl
theorem AllNe.of_lt {d : Nat} {l : List (Addr × Obj)} (h : AllLt d l) : AllNe d l := allNe_of fun p hp => Nat.ne_of_lt (allLt_ne h p hp)
end
end Mine
namespace Mine
theorem AllNe.of_lt2 {d x : Nat} {l : List (Addr × Obj)} (h : AllLt d l) (hx : d < x) : AllNe x l := allNe_of fun p hp => Nat.ne_of_lt (Nat.lt_trans (allLt_ne h p hp) hx)
/-- what an info's dict holds: code, glyph, cluster, mask; all else as __init__ leaves it -/
inductive IsInfo (w : World) (c g k mk : Int) : Obj → Prop
  | mk (a0 a1 a2 a3 a4 a5 a6 a7 a8 a9 b0 b1 b2 b3 b4 : Tok) (c0 c1 c2 c3 c5 c6 c7 c8 c9 d0 d1 d2 d3 d4 : Tok) : IsInfo w c g k mk (dictOf [
      ⟨PyData.keyHash w.params (Str.ofString "code"), .str (Str.ofString "code") a0, .int c c0⟩,
      ⟨PyData.keyHash w.params (Str.ofString "glyph"), .str (Str.ofString "glyph") a1, .int g c1⟩,
      ⟨PyData.keyHash w.params (Str.ofString "cluster"), .str (Str.ofString "cluster") a2, .int k c2⟩,
      ⟨PyData.keyHash w.params (Str.ofString "mask"), .str (Str.ofString "mask") a3, .int mk c3⟩,
      ⟨PyData.keyHash w.params (Str.ofString "is_unsafe"), .str (Str.ofString "is_unsafe") a4, .bool false⟩,
      ⟨PyData.keyHash w.params (Str.ofString "lig_id"), .str (Str.ofString "lig_id") a5, .int 0 c5⟩,
      ⟨PyData.keyHash w.params (Str.ofString "lig_part"), .str (Str.ofString "lig_part") a6, .int 0 c6⟩,
      ⟨PyData.keyHash w.params (Str.ofString "lig_count"), .str (Str.ofString "lig_count") a7, .int 0 c7⟩,
      ⟨PyData.keyHash w.params (Str.ofString "kind"), .str (Str.ofString "kind") a8, .str (Str.ofString "") c8⟩,
      ⟨PyData.keyHash w.params (Str.ofString "x_advance"), .str (Str.ofString "x_advance") a9, .int 0 c9⟩,
      ⟨PyData.keyHash w.params (Str.ofString "y_advance"), .str (Str.ofString "y_advance") b0, .int 0 d0⟩,
      ⟨PyData.keyHash w.params (Str.ofString "x_offset"), .str (Str.ofString "x_offset") b1, .int 0 d1⟩,
      ⟨PyData.keyHash w.params (Str.ofString "y_offset"), .str (Str.ofString "y_offset") b2, .int 0 d2⟩,
      ⟨PyData.keyHash w.params (Str.ofString "parent"), .str (Str.ofString "parent") b3, .int 0 d3⟩,
      ⟨PyData.keyHash w.params (Str.ofString "bond"), .str (Str.ofString "bond") b4, .str (Str.ofString "") d4⟩] 15)
/-- a buffer's dict -/
inductive IsBuf (w : World) (IS : Addr) (b : Bool) : Obj → Prop
  | mk (a0 a1 a2 c2 : Tok) (n : Nat) : IsBuf w IS b (dictOf [
      ⟨PyData.keyHash w.params (Str.ofString "row"), .str (Str.ofString "row") a0, .ref IS⟩,
      ⟨PyData.keyHash w.params (Str.ofString "is_backward"), .str (Str.ofString "is_backward") a1, .bool b⟩,
      ⟨PyData.keyHash w.params (Str.ofString "last_lig"), .str (Str.ofString "last_lig") a2, .int 0 c2⟩] n)
structure Rec where
  I : Addr
  D : Addr
  o : Obj
/-- the row's objects in the ledger -/
noncomputable def rled (rs : List Rec) : List (Addr × Obj) := rs.flatMap fun r => [(r.I, instObj 101 r.D), (r.D, r.o)]
theorem rled_append (a b : List Rec) : rled (a ++ b) = rled a ++ rled b := by simp [rled]
theorem rled_cons (r : Rec) (b : List Rec) : rled (r :: b) = (r.I, instObj 101 r.D) :: (r.D, r.o) :: rled b := rfl
theorem rled_nil : rled [] = [] := rfl
def RecsOk (w : World) (rs : List Rec) (cs ms : List Int) : Prop := ∀ (j : Nat) (r : Rec), rs[j]? = some r → IsInfo w (cs.getD j 0) (3 + (j : Int)) (2 * (j : Int)) (ms.getD j 0) r.o
structure Apart (rs : List Rec) (tl : List (Addr × Obj)) : Prop where
  nd : ((rled rs).map (·.1)).Nodup
  off : ∀ p ∈ rled rs, AllNe p.1 tl
theorem Sep.add {tl : List (Addr × Obj)} {rs : List Rec} {x dx : Addr} {o : Obj} (hx : @LT.lt Nat _ dx x) : ∀ {l : List Addr}, (∀ d ∈ l, @LT.lt Nat _ d dx) → Sep (rled rs ++ tl) l → Sep (rled (rs ++ [⟨x, dx, o⟩]) ++ tl) l
  | [], _, _ => trivial
  | d :: _, hl, ⟨a, b, c⟩ => ⟨a, by
    have h1 := hl d (.head _)
    rw [rled_append]
    refine allNe_append (allNe_append b.left ⟨Nat.ne_of_gt (Nat.lt_trans h1 hx), Nat.ne_of_gt h1, trivial⟩) b.right, Sep.add hx (fun d hd => hl d (.tail _ hd)) c⟩
theorem Apart.add {tl : List (Addr × Obj)} {rs : List Rec} {x dx : Addr} {o : Obj} (h : Apart rs tl) (hx : @LT.lt Nat _ dx x) (hl : AllLt dx (rled rs ++ tl)) : Apart (rs ++ [⟨x, dx, o⟩]) tl := by
  have h1 : ∀ p ∈ rled rs, @LT.lt Nat _ p.1 dx := fun p hp => allLt_ne hl p (List.mem_append.mpr (.inl hp))
  have h2 : ∀ p ∈ tl, @LT.lt Nat _ p.1 dx := fun p hp => allLt_ne hl p (List.mem_append.mpr (.inr hp))
  refine ⟨?_, fun p hp => ?_⟩
  · rw [rled_append, List.map_append, List.nodup_append]
    refine ⟨h.nd, ?_, fun a ha b hb => ?_⟩
    · show [x, dx].Nodup
      simp only [List.nodup_cons, List.mem_singleton, List.not_mem_nil, not_false_eq_true, List.nodup_nil, and_true]
      exact fun e => Nat.ne_of_gt hx e
    · obtain ⟨p, hp, rfl⟩ := List.mem_map.mp ha
      have hb' : b ∈ [x, dx] := hb
      rcases List.mem_cons.mp hb' with rfl | hb'
      · exact Nat.ne_of_lt (Nat.lt_trans (h1 p hp) hx)
      · rw [List.mem_singleton.mp hb']; exact Nat.ne_of_lt (h1 p hp)
  · rw [rled_append] at hp
    rcases List.mem_append.mp hp with hp | hp
    · exact h.off p hp
    · have hp' : p ∈ ([(x, instObj 101 dx), (dx, o)] : List (Addr × Obj)) := hp
      rcases List.mem_cons.mp hp' with rfl | hp'
      · exact allNe_of fun q hq => Nat.ne_of_lt (Nat.lt_trans (h2 q hq) hx)
      · rw [List.mem_singleton.mp hp']; exact allNe_of fun q hq => Nat.ne_of_lt (h2 q hq)
theorem RecsOk.add {w : World} {rs : List Rec} {cs ms : List Int} {x dx : Addr} {o : Obj} {mk : Int} (h : RecsOk w rs cs ms) (hm : ms.length = rs.length) (hi : IsInfo w (cs.getD rs.length 0) (3 + (rs.length : Int)) (2 * (rs.length : Int)) mk o) :
    RecsOk w (rs ++ [⟨x, dx, o⟩]) cs (ms ++ [mk]) := by
  intro j r hj
  rcases Nat.lt_trichotomy j rs.length with hl | he | hl
  · rw [List.getElem?_append_left hl] at hj
    have := h j r hj
    rwa [show (ms ++ [mk]).getD j 0 = ms.getD j 0 by simp [List.getD_eq_getElem?_getD, List.getElem?_append_left (hm ▸ hl)]]
  · subst he
    rw [List.getElem?_append_right (Nat.le_refl _), Nat.sub_self] at hj
    cases hj
    rw [show (ms ++ [mk]).getD rs.length 0 = mk by simp [List.getD_eq_getElem?_getD, ← hm]]
    exact hi
  · rw [List.getElem?_eq_none (by rw [List.length_append, List.length_singleton]; omega)] at hj
    cases hj
noncomputable abbrev names10 (BU HD IS : Addr) (mk : Int) (tm : Tok) (K OT CO : Addr) (b : Bool) (PP P : Addr) : List (Str × Value) := (Str.ofString "buffer", .ref BU) :: (Str.ofString "held", .ref HD) :: (Str.ofString "infos", .ref IS) :: (Str.ofString "mask", .int mk tm) :: (Str.ofString "known", .ref K) :: names6 OT CO b PP P
theorem news_front {h₀ h : Heap} {L : Addr} {l news : List (Addr × Obj)} (N : News h₀ L h news) (hl : ∀ q ∈ l, q ∈ news) : News h₀ L h (l ++ news) := fun q hq => (List.mem_append.mp hq).elim (fun h => N q (hl q h)) fun h => N q h
theorem take_snoc {l : List Int} {i : Nat} (h : i < l.length) : l.take (i + 1) = l.take i ++ [l.getD i 0] := by
  rw [List.take_add_one, List.getElem?_eq_getElem h, List.getD_eq_getElem?_getD, List.getElem?_eq_getElem h]; rfl
theorem rled_mem {rs : List Rec} {j : Nat} {r : Rec} (h : rs[j]? = some r) : (r.I, instObj 101 r.D) ∈ rled rs ∧ (r.D, r.o) ∈ rled rs := by
  have hm := List.mem_of_getElem? h
  exact ⟨List.mem_flatMap.mpr ⟨r, hm, .head _⟩, List.mem_flatMap.mpr ⟨r, hm, .tail _ (.head _)⟩⟩
/-- the body of a for of the law's own -/
noncomputable def loopBody (k : Nat) : List Stmt := match lawRec.body[k]? with | some (.For _ _ b _ _) => b | _ => []
theorem names_keep {m m' : Str → Option Value} {x : Str} (h : ∀ y, y ≠ x → m' y = m y) {l : List (Str × Value)} (nm : Names m l) (hx : ∀ q ∈ l, q.1 ≠ x) : Names m' l := fun q hq => (h q.1 (hx q hq)).trans (nm q hq)
theorem names_keepB {m m' : Str → Option Value} {x : Str} (h : ∀ y, y ≠ x → m' y = m y) {l : List (Str × Value)} (nm : Names m l) (hx : (l.map (·.1)).all (fun y => !decide (y = x)) = true) : Names m' l := names_keep h nm fun q hq => by
  have z := List.all_eq_true.mp hx q.1 (List.mem_map_of_mem hq)
  simpa using z
theorem neL_lt {D : Nat} : ∀ {fr tl : List (Addr × Obj)}, AllLt D (fr ++ tl) → NeL D (fr.map (·.1))
  | [], _, _ => trivial
  | _ :: _, _, h => ⟨Nat.ne_of_gt h.1, neL_lt h.2⟩
theorem allLt_up {D x : Nat} {l : List (Addr × Obj)} (h : AllLt D l) (hx : D < x) : AllLt x l := allLt_of fun p hp => Nat.lt_trans (allLt_ne h p hp) hx
theorem sepNew {D : Nat} {fr tl : List (Addr × Obj)} (h : AllLt D (fr ++ tl)) (S : Sep tl (fr.map (·.1))) : Sep tl (D :: fr.map (·.1)) :=
  ⟨neL_lt h, AllNe.of_lt (allLt_of fun p hp => allLt_ne h p (app_r p hp)), S⟩
theorem sepNew2 {D x : Nat} {fr tl : List (Addr × Obj)} (h : AllLt D (fr ++ tl)) (hx : D < x) (S : Sep tl (fr.map (·.1))) : Sep tl (x :: D :: fr.map (·.1)) :=
  ⟨⟨Nat.ne_of_gt hx, neL_lt (allLt_up h hx)⟩, AllNe.of_lt (allLt_of fun p hp => allLt_ne (allLt_up h hx) p (app_r p hp)), sepNew h S⟩
end Mine
namespace Mine
section
variable {prog : Program} {w : World} {p : Program} {loose : List Str} {mean : ExcName → Option Value} {mg mb : Str → Option Value}
  {dp un : Nat} {gd : Option (List Code)} {ccd : Value} {outer : List Env} {A₀ : Around} {base h₀ : Heap} {L CC fa : Addr} {oc : Obj} {m : Str → Option Value} {news : List (Addr × Obj)} {s : Shared} {Q : Flow → Shared → Prop} {E : Value → Shared → Prop}
theorem say_N1 : True := by
  k_with_none
  k_with "room9" => (first | exact roomL 0 (by assumption) rfl | exact roomL 1 (by assumption) rfl | exact roomL 2 (by assumption) rfl | exact roomL 3 (by assumption) rfl | exact roomL 4 (by assumption) rfl | exact roomL 5 (by assumption) rfl | exact roomL 6 (by assumption) rfl | exact roomL 7 (by assumption) rfl | exact roomL 8 (by assumption) rfl | exact roomL 9 (by assumption) rfl | exact roomL 10 (by assumption) rfl | exact roomL 11 (by assumption) rfl | exact roomL 12 (by assumption) rfl | exact roomL 13 (by assumption) rfl | exact roomE 0 (by assumption) rfl | exact roomE 1 (by assumption) rfl | exact roomE 2 (by assumption) rfl | exact roomE 3 (by assumption) rfl | exact roomE 4 (by assumption) rfl)
  k_with "k_room" => (first | k_extra "room9" | ktr_room)
  k_with "and9" => (((repeat (with_reducible rename (_ ∧ _) => l8; first | exact l8.1 | exact Ne.symm l8.1 | exact Nat.ne_of_lt l8.1 | exact Nat.ne_of_gt l8.1 | exact Nat.ne_of_gt (Nat.lt_trans l8.1 (by assumption)) | exact Nat.ne_of_lt (Nat.lt_trans l8.1 (by assumption)) | (replace l8 := l8.2; first | exact l8 | exact Ne.symm l8 | exact Nat.ne_of_lt l8 | exact Nat.ne_of_gt l8 | skip))); done))
  k_with "k_ne" => ((refine neN ?_; (try dsimp only); first | assumption | exact Ne.symm (by assumption) | exact Nat.ne_of_lt (by assumption) | exact Nat.ne_of_gt (by assumption) | k_extra "and9" | omega))
  k_with "k_all" => (exact AllNe.ne (by assumption))
  k_with "call ref" => ((k_here; (with_reducible show wpAny _ _ (call (Value.ref 210) _ _) _ _ _); k_dflt (refine' draw_P ?k1 ?k2 ?k3 ?k4 ?k5 ?kK ?kU ?kp ?kC ?kc ?kn ?k6 ?k7 ?k8 ?kd ?_; (case kK => first | exact rfl | assumption); (case k1 => k_asm); (case k2 => k_asm); (case k3 => k_asm); (case k4 => k_asm); (case k5 => k_asm); (case kU => k_updF); (case kp => assumption); (case kC => k_mem); (case kc => assumption); (case kn => k_ne); (case k6 => first | k_extra "room9" | omega); (case k7 => first | exact of_decide_eq_true rfl | omega); (case k8 => first | exact of_decide_eq_true rfl | omega); (case kd => k_room); k_whole); intro _ _ _ _ _ _ N9 _ _ _; (try dsimp only at N9); (try dsimp only)))
  k_with "sep9" => (((repeat (rename ((_ : Nat) < _ ∧ _) => l8; obtain ⟨_, l7⟩ := l8)); (repeat (rename (@Ne Nat _ _ ∧ _) => l8; obtain ⟨_, l7⟩ := l8)); (simp only [Sep, NeL, and_true]); (repeat' apply And.intro); (all_goals first | assumption | k_ne | exact AllNe.of_lt (by assumption) | exact off1_allNe (by assumption) | exact AllNe.of_lt2 (by assumption) (by assumption) | exact trivial)))
  k_with "names9" => ((repeat' (first | exact names_nil | (refine names_cons (by with_unfolding_all rfl) ?_))))
  k_with "sub9" => ((intro _ hq; repeat (first | exact hq | exact List.mem_append.mpr (.inl hq) | refine List.Mem.tail _ ?_)))
  k_with "pyIter ref" => ((k_here; (with_reducible show wpAny _ _ (pyIter (Value.ref _)) (fun it s₂ => LoopAtV _ _ _ _ _ _ _ _ _ it s₂) _ _); refine stop_ ?_))
  k_with "call builtin:len" => ((k_here; (with_reducible show wpAny _ _ (call (Value.builtin "len") [Value.ref _]) _ _ _); k_dflt (refine' lenL_K ?k1 ?k2 ?k3 ?k4 ?_; (case k1 => k_asm); (case k2 => k_mem); (case k3 => assumption); (case k4 => omega); k_whole); intro _ _; (try dsimp only)))
  trivial
section
variable {Q : Value → Shared → Prop}
set_option maxRecDepth 100000 in
set_option maxHeartbeats 8000000 in
/-- an info made, whatever else stands -/
theorem info_K {c g k : Int} {t1 t2 t3 : Tok} (B : Below A₀ base outer h₀) (F : Fr h₀ L s.heap m) (X : (Mine.hd.heap_39 w.params).In h₀) (N : News h₀ L s.heap news)
    (T : Top p loose mean mg mb h₀) (hdp : dp + 2 < recursionLimit)
    (hret : ∀ x dx o h' tk', Fr h₀ L h' m → News h₀ L h' ((x, instObj 101 dx) :: (dx, o) :: news) → AllLt dx news → @LT.lt Nat _ dx x → IsInfo w c g k 0 o → Q (.ref x) { s with heap := h', toks := tk' }) :
    wpAny (model prog w) (lawTop dp un gd L CC fa ccd outer) (call (.ref 101) [.int c t1, .int g t2, .int k t3]) Q E s := by
  refine call_cls F X N (by k_is) (by k_is) (by k_is) fun x dx h' F' N' l1 l2 => ?_
  have al : AllLt dx news := allLt_of l1
  have an : AllNe dx news := AllNe.of_lt al
  k_enter
  k_steps
  rename (Fr h₀ L _ _) => FE
  rename (News h₀ L _ _) => NE
  exact hret _ _ _ _ _ FE NE al l2 (by constructor)
end
end
end Mine
namespace Mine
section
variable {prog : Program} {w : World} {p : Program} {loose : List Str} {mean : ExcName → Option Value} {mg mb : Str → Option Value}
  {dp un : Nat} {gd : Option (List Code)} {ccd : Value} {outer : List Env} {A₀ : Around} {base h₀ : Heap} {L CC fa : Addr} {oc : Obj} {m : Str → Option Value} {news : List (Addr × Obj)} {s : Shared} {Q : Flow → Shared → Prop} {E : Value → Shared → Prop}
theorem say_N2 : True := by
  k_with_none
  k_with "room9" => (first | exact roomL 0 (by assumption) rfl | exact roomL 1 (by assumption) rfl | exact roomL 2 (by assumption) rfl | exact roomL 3 (by assumption) rfl | exact roomL 4 (by assumption) rfl | exact roomL 5 (by assumption) rfl | exact roomL 6 (by assumption) rfl | exact roomL 7 (by assumption) rfl | exact roomL 8 (by assumption) rfl | exact roomL 9 (by assumption) rfl | exact roomL 10 (by assumption) rfl | exact roomL 11 (by assumption) rfl | exact roomL 12 (by assumption) rfl | exact roomL 13 (by assumption) rfl | exact roomE 0 (by assumption) rfl | exact roomE 1 (by assumption) rfl | exact roomE 2 (by assumption) rfl | exact roomE 3 (by assumption) rfl | exact roomE 4 (by assumption) rfl)
  k_with "k_room" => (first | k_extra "room9" | ktr_room)
  k_with "and9" => (((repeat (with_reducible rename (_ ∧ _) => l8; first | exact l8.1 | exact Ne.symm l8.1 | exact Nat.ne_of_lt l8.1 | exact Nat.ne_of_gt l8.1 | exact Nat.ne_of_gt (Nat.lt_trans l8.1 (by assumption)) | exact Nat.ne_of_lt (Nat.lt_trans l8.1 (by assumption)) | (replace l8 := l8.2; first | exact l8 | exact Ne.symm l8 | exact Nat.ne_of_lt l8 | exact Nat.ne_of_gt l8 | skip))); done))
  k_with "k_ne" => ((refine neN ?_; (try dsimp only); first | assumption | exact Ne.symm (by assumption) | exact Nat.ne_of_lt (by assumption) | exact Nat.ne_of_gt (by assumption) | k_extra "and9" | omega))
  k_with "k_all" => (exact AllNe.ne (by assumption))
  k_with "call ref" => ((k_here; (with_reducible show wpAny _ _ (call (Value.ref 210) _ _) _ _ _); k_dflt (refine' draw_P ?k1 ?k2 ?k3 ?k4 ?k5 ?kK ?kU ?kp ?kC ?kc ?kn ?k6 ?k7 ?k8 ?kd ?_; (case kK => first | exact rfl | assumption); (case k1 => k_asm); (case k2 => k_asm); (case k3 => k_asm); (case k4 => k_asm); (case k5 => k_asm); (case kU => k_updF); (case kp => assumption); (case kC => k_mem); (case kc => assumption); (case kn => k_ne); (case k6 => first | k_extra "room9" | omega); (case k7 => first | exact of_decide_eq_true rfl | omega); (case k8 => first | exact of_decide_eq_true rfl | omega); (case kd => k_room); k_whole); intro _ _ _ _ _ _ N9 _ _ _; (try dsimp only at N9); (try dsimp only)))
  k_with "sep9" => (((repeat (rename ((_ : Nat) < _ ∧ _) => l8; obtain ⟨_, l7⟩ := l8)); (repeat (rename (@Ne Nat _ _ ∧ _) => l8; obtain ⟨_, l7⟩ := l8)); (simp only [Sep, NeL, and_true]); (repeat' apply And.intro); (all_goals first | assumption | k_ne | exact AllNe.of_lt (by assumption) | exact off1_allNe (by assumption) | exact AllNe.of_lt2 (by assumption) (by assumption) | exact trivial)))
  k_with "names9" => ((repeat' (first | exact names_nil | (refine names_cons (by with_unfolding_all rfl) ?_))))
  k_with "sub9" => ((intro _ hq; repeat (first | exact hq | exact List.mem_append.mpr (.inl hq) | refine List.Mem.tail _ ?_)))
  k_with "pyIter ref" => ((k_here; (with_reducible show wpAny _ _ (pyIter (Value.ref _)) (fun it s₂ => LoopAtV _ _ _ _ _ _ _ _ _ it s₂) _ _); refine stop_ ?_))
  k_with "call builtin:len" => ((k_here; (with_reducible show wpAny _ _ (call (Value.builtin "len") [Value.ref _]) _ _ _); k_dflt (refine' lenL_K ?k1 ?k2 ?k3 ?k4 ?_; (case k1 => k_asm); (case k2 => k_mem); (case k3 => assumption); (case k4 => omega); k_whole); intro _ _; (try dsimp only)))
  trivial
theorem say_N21 : True := by
  k_with "call ref" => ((k_here; (with_reducible show wpAny _ _ (call (Value.ref 101) _ _) _ _ _); k_dflt (refine' info_K ?k1 ?k2 ?k3 ?k4 ?k5 ?kd ?_; (case k1 => k_asm); (case k2 => k_asm); (case k3 => k_asm); (case k4 => k_asm); (case k5 => k_asm); (case kd => k_room); k_whole); intro _ _ _ _ _ _ _ l9 _ i9; (have ne9 := AllNe.of_lt l9); (simp only [AllLt] at l9); (simp only [AllNe] at ne9); cases i9; (try dsimp only)))
  trivial
set_option maxRecDepth 100000 in
set_option maxHeartbeats 8000000 in
theorem stepG {IS CO P C : Addr} {oP oC : Obj} {cs iv : List Value} {nc ni k i : Nat} {zs : List Int} {t : Tok} {R : List (Addr × Obj)} (B : Below A₀ base outer h₀) (F : Fr h₀ L s.heap m) (X : (Mine.hd.heap_39 w.params).In h₀)
    (N : News h₀ L s.heap ((IS, listOf iv.toArray ni) :: (CO, listOf cs.toArray nc) :: (P, oP) :: (C, oC) :: R)) (T : Top p loose mean mg mb h₀)
    (e1 : @Ne Nat IS CO) (e2 : @Ne Nat IS P) (e3 : @Ne Nat IS C) (e4 : AllNe IS R) (e5 : @Ne Nat CO P) (e6 : @Ne Nat P C) (e7 : AllNe P R)
    (ics : IntsAre cs zs) (hi : i < zs.length) (hz : zs.length ≤ 10) (hiv : iv.length ≤ 10) (pool : PoolOk oP C k) (hk : k ≤ 1000) (cells : CellsOk oC) (hdp : dp + 20 < recursionLimit)
    (nm : Names m [(Str.ofString "at", .int (0 + (i : Int)) t), (Str.ofString "infos", .ref IS), (Str.ofString "codes", .ref CO), (Str.ofString "pool", .ref P)])
    (done : ∀ x dx o md oP' m' h' tk', Fr h₀ L h' m' → News h₀ L h' ((x, instObj 101 dx) :: (dx, o) :: (IS, listOf (iv.toArray.push (.ref x)) (ni + 1)) :: (CO, listOf cs.toArray nc) :: (P, oP') :: (C, oC) :: R) →
      AllLt dx ((IS, listOf iv.toArray ni) :: (CO, listOf cs.toArray nc) :: (P, oP) :: (C, oC) :: R) → @LT.lt Nat _ dx x → PoolOk oP' C (k + 1) → IsInfo w (zs.getD i 0) (3 + (i : Int)) (2 * (i : Int)) md o → (∀ y, y ≠ Str.ofString "info" → m' y = m y) → Q .next { s with heap := h', toks := tk' }) :
    wpAny (model prog w) (lawTop dp un gd L CC fa ccd outer) (execs (loopBody 13) (lawEnv L CC fa ccd)) Q E s := by
  dsimp only [loopBody, lawRec, recOf]
  have mo := over_eq nm
  replace F := fr_over _ F nm
  k_steps

  rename (Fr h₀ L _ _) => FE
  rename (News h₀ L _ _) => NE
  rename (PoolOk _ _ _) => PE
  have II : ∀ {md : Int} {o : Obj}, IsInfo w (zs.getD (0 + (i : Int)).toNat 0) (3 + (0 + (i : Int))) (2 * (0 + (i : Int))) md o → IsInfo w (zs.getD i 0) (3 + (i : Int)) (2 * (i : Int)) md o := fun h => by rw [Int.zero_add, Int.toNat_natCast] at h; exact h
  refine' done _ _ _ _ _ _ _ _ FE NE (by assumption) (by assumption) PE (II ?ii) (fun y hy => ?nn)
  case ii => constructor
  case nn => exact (if_neg hy).trans (congrFun mo y)
end
end Mine
namespace Mine
section
variable {prog : Program} {w : World} {p : Program} {loose : List Str} {mean : ExcName → Option Value} {mg mb : Str → Option Value}
  {dp un : Nat} {gd : Option (List Code)} {ccd : Value} {outer : List Env} {A₀ : Around} {base h₀ : Heap} {L CC : Addr} {oc : Obj} {m : Str → Option Value} {news : List (Addr × Obj)} {s : Shared} {Q : Flow → Shared → Prop} {E : Value → Shared → Prop}
theorem say_C8a : True := by
  k_with_none
  k_with "room9" => (first | exact roomL 0 (by assumption) rfl | exact roomL 1 (by assumption) rfl | exact roomL 2 (by assumption) rfl | exact roomL 3 (by assumption) rfl | exact roomL 4 (by assumption) rfl | exact roomL 5 (by assumption) rfl | exact roomL 6 (by assumption) rfl | exact roomL 7 (by assumption) rfl | exact roomL 8 (by assumption) rfl | exact roomL 9 (by assumption) rfl | exact roomL 10 (by assumption) rfl | exact roomL 11 (by assumption) rfl | exact roomL 12 (by assumption) rfl | exact roomL 13 (by assumption) rfl | exact roomE 0 (by assumption) rfl | exact roomE 1 (by assumption) rfl | exact roomE 2 (by assumption) rfl | exact roomE 3 (by assumption) rfl | exact roomE 4 (by assumption) rfl)
  k_with "k_room" => (first | k_extra "room9" | ktr_room)
  k_with "and9" => (((repeat (with_reducible rename (_ ∧ _) => l8; first | exact l8.1 | exact Ne.symm l8.1 | exact Nat.ne_of_lt l8.1 | exact Nat.ne_of_gt l8.1 | exact Nat.ne_of_gt (Nat.lt_trans l8.1 (by assumption)) | exact Nat.ne_of_lt (Nat.lt_trans l8.1 (by assumption)) | (replace l8 := l8.2; first | exact l8 | exact Ne.symm l8 | exact Nat.ne_of_lt l8 | exact Nat.ne_of_gt l8 | skip))); done))
  k_with "k_ne" => ((refine neN ?_; (try dsimp only); first | assumption | exact Ne.symm (by assumption) | exact Nat.ne_of_lt (by assumption) | exact Nat.ne_of_gt (by assumption) | k_extra "and9" | omega))
  k_with "k_all" => (exact AllNe.ne (by assumption))
  k_with "call ref" => ((k_here; (with_reducible show wpAny _ _ (call (Value.ref 210) _ _) _ _ _); k_dflt (refine' draw_P ?k1 ?k2 ?k3 ?k4 ?k5 ?kK ?kU ?kp ?kC ?kc ?kn ?k6 ?k7 ?k8 ?kd ?_; (case kK => first | exact rfl | assumption); (case k1 => k_asm); (case k2 => k_asm); (case k3 => k_asm); (case k4 => k_asm); (case k5 => k_asm); (case kU => k_updF); (case kp => assumption); (case kC => k_mem); (case kc => assumption); (case kn => k_ne); (case k6 => first | k_extra "room9" | omega); (case k7 => first | exact of_decide_eq_true rfl | omega); (case k8 => first | exact of_decide_eq_true rfl | omega); (case kd => k_room); k_whole); intro _ _ _ _ _ _ N9 _ _ _; (try dsimp only at N9); (try dsimp only)))
  k_with "sep9" => (((repeat (rename ((_ : Nat) < _ ∧ _) => l8; obtain ⟨_, l7⟩ := l8)); (repeat (rename (@Ne Nat _ _ ∧ _) => l8; obtain ⟨_, l7⟩ := l8)); (simp only [Sep, NeL, and_true]); (repeat' apply And.intro); (all_goals first | assumption | k_ne | exact AllNe.of_lt (by assumption) | exact off1_allNe (by assumption) | exact AllNe.of_lt2 (by assumption) (by assumption) | exact trivial)))
  k_with "names9" => ((repeat' (first | exact names_nil | (refine names_cons (by with_unfolding_all rfl) ?_))))
  k_with "sub9" => ((intro _ hq; repeat (first | exact hq | exact List.mem_append.mpr (.inl hq) | refine List.Mem.tail _ ?_)))
  k_with "pyIter ref" => ((k_here; (with_reducible show wpAny _ _ (pyIter (Value.ref _)) (fun it s₂ => LoopAtV _ _ _ _ _ _ _ _ _ it s₂) _ _); refine stop_ ?_))
  k_with "call builtin:len" => ((k_here; (with_reducible show wpAny _ _ (call (Value.builtin "len") [Value.ref _]) _ _ _); k_dflt (refine' lenL_K ?k1 ?k2 ?k3 ?k4 ?_; (case k1 => k_asm); (case k2 => k_mem); (case k3 => assumption); (case k4 => omega); k_whole); intro _ _; (try dsimp only)))
  trivial
/-- a char map's dict -/
noncomputable def cmD (w : World) (KD : Addr) (a0 a1 : Tok) (n : Nat) : Obj := dictOf [
      ⟨PyData.keyHash w.params (Str.ofString "codes"), .str (Str.ofString "codes") a0, .ref KD⟩,
      ⟨PyData.keyHash w.params (Str.ofString "variations"), .str (Str.ofString "variations") a1, .none⟩] n
inductive IsCM (w : World) (KD : Addr) : Obj → Prop
  | mk (a0 a1 : Tok) (n : Nat) : IsCM w KD (cmD w KD a0 a1 n)
noncomputable def bufD (w : World) (IS : Addr) (b : Bool) (a0 a1 a2 c2 : Tok) (n : Nat) : Obj := dictOf [
      ⟨PyData.keyHash w.params (Str.ofString "row"), .str (Str.ofString "row") a0, .ref IS⟩,
      ⟨PyData.keyHash w.params (Str.ofString "is_backward"), .str (Str.ofString "is_backward") a1, .bool b⟩,
      ⟨PyData.keyHash w.params (Str.ofString "last_lig"), .str (Str.ofString "last_lig") a2, .int 0 c2⟩] n
theorem gsub_all {H H' : Heap} {adr adr' : List Addr} (G : GSub H H' adr) (h : ∀ b ∈ adr, b ∈ adr') : GSub H H' adr' := fun b o e n => G b o e fun hb => n (h b hb)
theorem news_after {h₀ H H' : Heap} {L : Addr} {l l' tl : List (Addr × Obj)} (N : News h₀ L H (l ++ tl)) (G : GSub H H' (l.map (·.1))) (hg : ∀ q ∈ l', H'.get? q.1 = some q.2) (he : l'.map (·.1) = l.map (·.1)) (off : ∀ q ∈ l, AllNe q.1 tl) : News h₀ L H' (l' ++ tl) := by
  intro q hq
  rcases List.mem_append.mp hq with hq | hq
  · have hm : q.1 ∈ l.map (·.1) := he ▸ List.mem_map_of_mem hq
    obtain ⟨p, hp, e⟩ := List.mem_map.mp hm
    have z := (N p (List.mem_append.mpr (.inl hp))).2
    rw [e] at z
    exact ⟨hg q hq, z⟩
  · have z := N q (List.mem_append.mpr (.inr hq))
    refine ⟨G _ _ z.1 fun hm => ?_, z.2⟩
    obtain ⟨p, hp, e⟩ := List.mem_map.mp hm
    exact (off p hp).ne q hq e.symm
theorem Sep.front {tl tl' : List (Addr × Obj)} : ∀ {l : List Addr}, (∀ d ∈ l, AllNe d tl') → Sep tl l → Sep (tl' ++ tl) l
  | [], _, _ => trivial
  | _ :: _, h, ⟨a, b, c⟩ => ⟨a, allNe_append (h _ (.head _)) b, Sep.front (fun d hd => h d (.tail _ hd)) c⟩
theorem Sep.sub {tl tl' : List (Addr × Obj)} (hs : ∀ p ∈ tl', p ∈ tl) : ∀ {l : List Addr}, Sep tl l → Sep tl' l
  | [], _ => trivial
  | _ :: _, ⟨a, b, c⟩ => ⟨a, allNe_of fun p hp => b.ne p (hs p hp), Sep.sub hs c⟩
theorem allNe_same {d : Nat} {l l' : List (Addr × Obj)} (he : l'.map (·.1) = l.map (·.1)) (h : AllNe d l) : AllNe d l' := allNe_of fun p hp => by
  have hm : p.1 ∈ l.map (·.1) := he ▸ List.mem_map_of_mem hp
  obtain ⟨q, hq, e⟩ := List.mem_map.mp hm
  rw [← e]
  exact h.ne q hq
noncomputable def idOf (r : Rec) : Addr × Addr := (r.I, r.D)
theorem rled_same {rs rs' : List Rec} (h : rs'.map idOf = rs.map idOf) : (rled rs').map (·.1) = (rled rs).map (·.1) := by
  have e : ∀ rs : List Rec, (rled rs).map (·.1) = (rs.map idOf).flatMap fun q => [q.1, q.2] := by
    intro rs
    induction rs with
    | nil => rfl
    | cons r t ih => rw [rled_cons, List.map_cons, List.map_cons, ih, List.map_cons, List.flatMap_cons]; rfl
  rw [e, e, h]
theorem Sep.same {tl tl' : List (Addr × Obj)} (he : tl'.map (·.1) = tl.map (·.1)) : ∀ {l : List Addr}, Sep tl l → Sep tl' l
  | [], _ => trivial
  | _ :: _, ⟨a, b, c⟩ => ⟨a, allNe_same he b, Sep.same he c⟩
theorem Apart.same {rs rs' : List Rec} {tl : List (Addr × Obj)} (h : rs'.map idOf = rs.map idOf) (a : Apart rs tl) : Apart rs' tl := by
  refine ⟨by rw [rled_same h]; exact a.nd, fun p hp => ?_⟩
  have hm : p.1 ∈ (rled rs).map (·.1) := rled_same h ▸ List.mem_map_of_mem hp
  obtain ⟨q, hq, e⟩ := List.mem_map.mp hm
  rw [← e]
  exact a.off q hq
theorem neL_of {d : Nat} : ∀ {l : List Addr}, (∀ b ∈ l, @Ne Nat d b) → NeL d l
  | [], _ => trivial
  | b :: _, h => ⟨h b (.head _), neL_of fun c hc => h c (.tail _ hc)⟩
theorem Sep.ne {tl : List (Addr × Obj)} : ∀ {l : List Addr}, Sep tl l → ∀ b ∈ l, AllNe b tl
  | [], _, _, hb => nomatch hb
  | d :: _, ⟨_, h, r⟩, b, hb => by
    rcases List.mem_cons.mp hb with rfl | hb
    · exact h
    · exact Sep.ne r b hb
theorem rled_mid (pre post : List Rec) (r : Rec) : rled (pre ++ r :: post) = rled pre ++ (r.I, instObj 101 r.D) :: (r.D, r.o) :: rled post := by rw [rled_append, rled_cons]
theorem sep_mid {pre post : List Rec} {r : Rec} {tl : List (Addr × Obj)} {l : List Addr} (S : Sep (rled (pre ++ r :: post) ++ tl) l) (ap : Apart (pre ++ r :: post) tl) : Sep (rled pre ++ rled post ++ tl) (r.I :: r.D :: l) := by
  have nd := ap.nd
  rw [rled_mid] at nd S
  simp only [List.map_append, List.map_cons, List.nodup_append, List.nodup_cons, List.mem_cons, List.mem_map, not_or, not_exists, not_and] at nd
  obtain ⟨n1, ⟨⟨n2, n3⟩, n4, n5⟩, n6⟩ := nd
  have oI := ap.off (r.I, instObj 101 r.D) (by rw [rled_mid]; exact List.mem_append.mpr (.inr (.head _)))
  have oD := ap.off (r.D, r.o) (by rw [rled_mid]; exact List.mem_append.mpr (.inr (.tail _ (.head _))))
  have sI : ∀ b ∈ l, @Ne Nat r.I b := fun b hb => (S.ne b hb).ne (r.I, instObj 101 r.D) (by simp)
  have sD : ∀ b ∈ l, @Ne Nat r.D b := fun b hb => (S.ne b hb).ne (r.D, r.o) (by simp)
  refine ⟨⟨n2, neL_of sI⟩, ?_, neL_of sD, ?_, Sep.sub (fun p hp => ?_) S⟩
  · refine allNe_append (allNe_append (allNe_of fun p hp => n6 p.1 ⟨p, hp, rfl⟩ _ (.inl rfl)) (allNe_of fun p hp => n3 p hp)) oI
  · refine allNe_append (allNe_append (allNe_of fun p hp => n6 p.1 ⟨p, hp, rfl⟩ _ (.inr (.inl rfl))) (allNe_of fun p hp => n4 p hp)) oD
  · simp only [List.mem_append, List.mem_cons] at hp ⊢
    grind
noncomputable def turnC (l : List (Int × Int)) (c : Int) : Bool := decide (mirOf c ≠ c) && decide ((l.lookup (mirOf c)).getD 0 ≠ 0)
noncomputable def newC (l : List (Int × Int)) (c : Int) : Int := if turnC l c = true then mirOf c else c
noncomputable def newM (l : List (Int × Int)) (mk c x : Int) : Int := if turnC l c = true then x else Builtin.bitOr x mk
structure RJ (w : World) (rs : List Rec) (l : List (Int × Int)) (mk : Int) (cs ms : List Int) (i : Nat) (rs' : List Rec) : Prop where
  same : rs'.map idOf = rs.map idOf
  at' : ∀ (j : Nat) (r : Rec), rs'[j]? = some r → IsInfo w (if j < i then newC l (cs.getD j 0) else cs.getD j 0) (3 + (j : Int)) (2 * (j : Int)) (if j < i then newM l mk (cs.getD j 0) (ms.getD j 0) else ms.getD j 0) r.o
theorem RJ.start {w : World} {rs : List Rec} {l : List (Int × Int)} {mk : Int} {cs ms : List Int} (h : RecsOk w rs cs ms) : RJ w rs l mk cs ms 0 rs := ⟨rfl, fun j r hj => by simpa using h j r hj⟩
theorem RJ.step {w : World} {rs : List Rec} {l : List (Int × Int)} {mk : Int} {cs ms : List Int} {i : Nat} {pre post : List Rec} {r : Rec} {o : Obj} (h : RJ w rs l mk cs ms i (pre ++ r :: post)) (hp : pre.length = i)
    (ho : IsInfo w (newC l (cs.getD i 0)) (3 + (i : Int)) (2 * (i : Int)) (newM l mk (cs.getD i 0) (ms.getD i 0)) o) : RJ w rs l mk cs ms (i + 1) (pre ++ ⟨r.I, r.D, o⟩ :: post) := by
  refine ⟨?_, fun j q hj => ?_⟩
  · rw [← h.same]; simp [idOf]
  · rcases Nat.lt_trichotomy j i with hl | he | hl
    · rw [if_pos (by omega), if_pos (by omega)]
      have := h.at' j q (by rw [List.getElem?_append_left (by omega)] at hj ⊢; exact hj)
      rwa [if_pos hl, if_pos hl] at this
    · subst he
      rw [if_pos (by omega), if_pos (by omega)]
      rw [List.getElem?_append_right (by omega), hp, Nat.sub_self] at hj
      cases hj
      exact ho
    · rw [if_neg (by omega), if_neg (by omega)]
      have := h.at' j q (by
        rw [List.getElem?_append_right (by omega)] at hj ⊢
        obtain ⟨k, hk⟩ : ∃ k, j - pre.length = k + 1 := ⟨j - pre.length - 1, (Nat.succ_pred_eq_of_pos (Nat.sub_pos_of_lt (by omega))).symm⟩
        rw [hk, List.getElem?_cons_succ] at hj ⊢
        exact hj)
      rwa [if_neg (by omega), if_neg (by omega)] at this
theorem mid_of {rs : List Rec} {i : Nat} {r : Rec} (h : rs[i]? = some r) : ∃ pre post, rs = pre ++ r :: post ∧ pre.length = i := by
  obtain ⟨hl, e⟩ := List.getElem?_eq_some_iff.mp h
  refine ⟨rs.take i, rs.drop (i + 1), ?_, by rw [List.length_take]; omega⟩
  rw [← e, List.getElem_cons_drop, List.take_append_drop]
theorem idOf_at {rs rs' : List Rec} (h : rs'.map idOf = rs.map idOf) {i : Nat} {r : Rec} (hr : rs[i]? = some r) : ∃ r', rs'[i]? = some r' ∧ r'.I = r.I ∧ r'.D = r.D := by
  have e : (rs'.map idOf)[i]? = some (idOf r) := by rw [h, List.getElem?_map, hr]; rfl
  rw [List.getElem?_map] at e
  obtain ⟨r', hr', e'⟩ := Option.map_eq_some_iff.mp e
  exact ⟨r', hr', congrArg Prod.fst e', congrArg Prod.snd e'⟩
noncomputable abbrev mrowL (CM DM KD BU DB IS : Addr) (oM oK oB : Obj) (iv : List Value) (ni : Nat) : List (Addr × Obj) := [(CM, instObj 186 DM), (DM, oM), (KD, oK), (BU, instObj 147 DB), (DB, oB), (IS, listOf iv.toArray ni)]
end
end Mine
namespace Mine
section
variable {prog : Program} {w : World} {p : Program} {loose : List Str} {mean : ExcName → Option Value} {mg mb : Str → Option Value}
  {dp un : Nat} {gd : Option (List Code)} {ccd : Value} {outer : List Env} {A₀ : Around} {base h₀ : Heap} {L CC : Addr} {oc : Obj} {m : Str → Option Value} {news : List (Addr × Obj)} {s : Shared} {Q : Flow → Shared → Prop} {E : Value → Shared → Prop}
theorem say_C8 : True := by
  k_with_none
  k_with "room9" => (first | exact roomL 0 (by assumption) rfl | exact roomL 1 (by assumption) rfl | exact roomL 2 (by assumption) rfl | exact roomL 3 (by assumption) rfl | exact roomL 4 (by assumption) rfl | exact roomL 5 (by assumption) rfl | exact roomL 6 (by assumption) rfl | exact roomL 7 (by assumption) rfl | exact roomL 8 (by assumption) rfl | exact roomL 9 (by assumption) rfl | exact roomL 10 (by assumption) rfl | exact roomL 11 (by assumption) rfl | exact roomL 12 (by assumption) rfl | exact roomL 13 (by assumption) rfl | exact roomE 0 (by assumption) rfl | exact roomE 1 (by assumption) rfl | exact roomE 2 (by assumption) rfl | exact roomE 3 (by assumption) rfl | exact roomE 4 (by assumption) rfl)
  k_with "execs cons" => ((k_here; (try k_gentoks); (with_reducible refine wpAny_execs_cons ?_); (try dsimp only); (try k_fold)))
  k_with "k_room" => (first | k_extra "room9" | ktr_room)
  k_with "and9" => (((repeat (with_reducible rename (_ ∧ _) => l8; first | exact l8.1 | exact Ne.symm l8.1 | exact Nat.ne_of_lt l8.1 | exact Nat.ne_of_gt l8.1 | exact Nat.ne_of_gt (Nat.lt_trans l8.1 (by assumption)) | exact Nat.ne_of_lt (Nat.lt_trans l8.1 (by assumption)) | (replace l8 := l8.2; first | exact l8 | exact Ne.symm l8 | exact Nat.ne_of_lt l8 | exact Nat.ne_of_gt l8 | skip))); done))
  k_with "k_ne" => ((refine neN ?_; (try dsimp only); first | assumption | exact Ne.symm (by assumption) | exact Nat.ne_of_lt (by assumption) | exact Nat.ne_of_gt (by assumption) | k_extra "and9" | omega))
  k_with "k_all" => (exact AllNe.ne (by assumption))
  k_with "call ref" => ((k_here; (with_reducible show wpAny _ _ (call (Value.ref 210) _ _) _ _ _); k_dflt (refine' draw_P ?k1 ?k2 ?k3 ?k4 ?k5 ?kK ?kU ?kp ?kC ?kc ?kn ?k6 ?k7 ?k8 ?kd ?_; (case kK => first | exact rfl | assumption); (case k1 => k_asm); (case k2 => k_asm); (case k3 => k_asm); (case k4 => k_asm); (case k5 => k_asm); (case kU => k_updF); (case kp => assumption); (case kC => k_mem); (case kc => assumption); (case kn => k_ne); (case k6 => first | k_extra "room9" | omega); (case k7 => first | exact of_decide_eq_true rfl | omega); (case k8 => first | exact of_decide_eq_true rfl | omega); (case kd => k_room); k_whole); intro _ _ _ _ _ _ N9 _ _ _; (try dsimp only at N9); (try dsimp only)))
  k_with "sep9" => (((repeat (rename ((_ : Nat) < _ ∧ _) => l8; obtain ⟨_, l7⟩ := l8)); (repeat (rename (@Ne Nat _ _ ∧ _) => l8; obtain ⟨_, l7⟩ := l8)); (simp only [Sep, NeL, and_true]); (repeat' apply And.intro); (all_goals first | assumption | k_ne | exact AllNe.of_lt (by assumption) | exact off1_allNe (by assumption) | exact AllNe.of_lt2 (by assumption) (by assumption) | exact trivial)))
  k_with "names9" => ((repeat' (first | exact names_nil | (refine names_cons (by with_unfolding_all rfl) ?_))))
  k_with "sub9" => ((intro _ hq; repeat (first | exact hq | exact List.mem_append.mpr (.inl hq) | refine List.Mem.tail _ ?_)))
  k_with "pyIter ref" => ((k_here; (with_reducible show wpAny _ _ (pyIter (Value.ref _)) (fun it s₂ => LoopAtV _ _ _ _ _ _ _ _ _ it s₂) _ _); refine stop_ ?_))
  k_with "call builtin:len" => ((k_here; (with_reducible show wpAny _ _ (call (Value.builtin "len") [Value.ref _]) _ _ _); k_dflt (refine' lenL_K ?k1 ?k2 ?k3 ?k4 ?_; (case k1 => k_asm); (case k2 => k_mem); (case k3 => assumption); (case k4 => omega); k_whole); intro _ _; (try dsimp only)))
  k_with "exec For" => ((k_here; (rename Fr _ _ _ _ => lF'); (with_unfolding_all refine' For_turns lF' ?_); k_whole))
  k_with "exec For Name Attribute cons nil" => ((k_here; (rename Fr _ _ _ _ => lF'); (with_unfolding_all refine' For_turns lF' ?_); k_whole))
  k_with "pyIter ref" => ((k_here; (with_reducible show wpAny _ _ (pyIter (Value.ref _)) (fun it s₂ => TurnsAt _ _ _ _ _ _ _ _ _ it s₂) _ _); refine stop_ ?_))
  k_with "call ref" => ((k_here; (with_reducible show wpAny _ _ (call (Value.ref 48) _ _) _ _ _); k_dflt (refine' mtable_K ?k1 ?k2 ?k3 ?k4 ?k5 ?kK ?kd ?_; (case kK => first | exact rfl | assumption); (case k1 => k_asm); (case k2 => k_asm); (case k3 => k_asm); (case k4 => k_asm); (case k5 => k_asm); (case kd => k_room); k_whole); intro _ _ _ _ _ _ _ _ _; (try dsimp only)))
  k_with "call builtin:dict.get" => ((k_here; (with_reducible show wpAny _ _ (call (Value.builtin "dict.get") [Value.ref _, Value.int _ _, Value.int _ _]) _ _ _); k_dflt (refine' getI ?k1 ?k2 ?k3 ?k4 ?_; (case k1 => k_asm); (case k2 => k_mem); (case k3 => assumption); (case k4 => assumption); k_whole); intro _; (try dsimp only)))
  k_with "getMethod ref" => ((k_here; k_dflt (refine' getMethodI ?k1 ?k2 ?k3 ?k4 ?_; (case k1 => k_asm); (case k2 => k_mem); (case k3 => assumption); (case k4 => assumption); k_whole); (try dsimp only)))
  trivial
theorem permM {α : Type} {i t a b c d e f x y : α} {p r : List α} : ∀ q ∈ i :: x :: y :: t :: a :: b :: c :: d :: e :: f :: (p ++ r), q ∈ i :: t :: a :: b :: c :: d :: e :: f :: (p ++ x :: y :: r) := by
  refine subC (.head _) (subC ?_ (subC ?_ ?_))
  · repeat (refine List.Mem.tail _ ?_)
    exact subR (b := x :: y :: r) subI x (.head _)
  · repeat (refine List.Mem.tail _ ?_)
    exact subR (b := x :: y :: r) subI y (.tail _ (.head _))
  · repeat (refine subC (by k_mem) ?_)
    repeat (refine subT ?_)
    exact subA (subL subI) (subR (subT (subT subI)))
theorem permM' {α : Type} {i t a b c d e f x y : α} {p r : List α} : ∀ q ∈ i :: t :: a :: b :: c :: d :: e :: f :: (p ++ x :: y :: r), q ∈ i :: x :: y :: t :: a :: b :: c :: d :: e :: f :: (p ++ r) := by
  repeat (refine subC (by k_mem) ?_)
  refine subA ?_ (subC (by k_mem) (subC (by k_mem) ?_))
  · repeat (refine subT ?_)
    exact subL subI
  · repeat (refine subT ?_)
    exact subR subI
theorem news_info {w : World} {c gl k mk : Int} {h₀ H : Heap} {L D : Addr} {x y : Addr × Obj} {o : Obj} {r : List (Addr × Obj)} (N : News h₀ L H (x :: y :: (D, o) :: r)) (h : IsInfo w c gl k mk o) : ∃ o, IsInfo w c gl k mk o ∧ News h₀ L H (x :: y :: (D, o) :: r) := ⟨o, h, N⟩
theorem turn_t {l : List (Int × Int)} {c mk x : Int} (h1 : (mirT.lookup c).getD c ≠ c) (h2 : (l.lookup ((mirT.lookup c).getD c)).getD 0 ≠ 0) : newC l c = (mirT.lookup c).getD c ∧ newM l mk c x = x := by
  have e : turnC l c = true := by rw [turnC, mirOf, Bool.and_eq_true]; exact ⟨decide_eq_true h1, decide_eq_true h2⟩
  simp only [newC, newM, e, if_true, mirOf, and_self]
theorem turn_f1 {l : List (Int × Int)} {c mk x : Int} (h : (mirT.lookup c).getD c = c) : newC l c = c ∧ newM l mk c x = Builtin.bitOr x mk := by
  have e : turnC l c = false := by simp only [turnC, mirOf, h, ne_eq, not_true_eq_false, decide_false, Bool.false_and]
  simp only [newC, newM, e, Bool.false_eq_true, if_false, and_self]
theorem turn_f2 {l : List (Int × Int)} {c mk x : Int} (h : (l.lookup ((mirT.lookup c).getD c)).getD 0 = 0) : newC l c = c ∧ newM l mk c x = Builtin.bitOr x mk := by
  have e : turnC l c = false := by simp only [turnC, mirOf, h, ne_eq, not_true_eq_false, decide_false, Bool.and_false]
  simp only [newC, newM, e, Bool.false_eq_true, if_false, and_self]
theorem info_t {w : World} {l : List (Int × Int)} {c mk x gl k : Int} {o : Obj} (h1 : (mirT.lookup c).getD c ≠ c) (h2 : (l.lookup ((mirT.lookup c).getD c)).getD 0 ≠ 0) (h : IsInfo w ((mirT.lookup c).getD c) gl k x o) : IsInfo w (newC l c) gl k (newM l mk c x) o := by
  obtain ⟨a, b⟩ := turn_t (mk := mk) (x := x) h1 h2
  rw [a, b]; exact h
theorem info_f1 {w : World} {l : List (Int × Int)} {c mk x gl k : Int} {o : Obj} (h1 : (mirT.lookup c).getD c = c) (h : IsInfo w c gl k (Builtin.bitOr x mk) o) : IsInfo w (newC l c) gl k (newM l mk c x) o := by
  obtain ⟨a, b⟩ := turn_f1 (l := l) (mk := mk) (x := x) h1
  rw [a, b]; exact h
theorem info_f2 {w : World} {l : List (Int × Int)} {c mk x gl k : Int} {o : Obj} (h1 : (l.lookup ((mirT.lookup c).getD c)).getD 0 = 0) (h : IsInfo w c gl k (Builtin.bitOr x mk) o) : IsInfo w (newC l c) gl k (newM l mk c x) o := by
  obtain ⟨a, b⟩ := turn_f2 (mk := mk) (x := x) h1
  rw [a, b]; exact h
section
variable {cn : Str} {cs : Scope} {a : Addr} {cl : List (Str × Addr)} {Q : Value → Shared → Prop}
set_option maxRecDepth 100000 in
set_option maxHeartbeats 8000000 in
theorem mrowF_spec {CM DM KD BU DB IS : Addr} {oM oK oB : Obj} {iv : List Value} {ni : Nat} {rs : List Rec} {mk : Int} {tm : Tok} (B : Below A₀ base outer h₀) (F : Fr h₀ L s.heap m) (X : (Mine.hd.heap_39 w.params).In h₀)
    (N : News h₀ L s.heap (mrowL CM DM KD BU DB IS oM oK oB iv ni ++ rled rs))
    (T : Top p loose mean mg mb h₀) (hk : cs.kind = .function) (hb : IsBuf w IS false oB) (hdp : dp + 12 < recursionLimit)
    (hret : ∀ h' tk', GSub s.heap h' ((mrowL CM DM KD BU DB IS oM oK oB iv ni ++ rled rs).map (·.1)) → (∀ q ∈ mrowL CM DM KD BU DB IS oM oK oB iv ni ++ rled rs, h'.get? q.1 = some q.2) → Q .none { s with heap := h', toks := tk' }) :
    wpAny (model prog w) (ktrTop dp un gd cn cs L a ccd cl outer) (call (.ref 70) [.ref BU, .ref CM, .int mk tm]) Q E s := by
  simp only [mrowL, List.cons_append, List.nil_append] at N hret
  refine wpAny_call ?_
  refine' code_defG ?k1 ?k2 ?k3 ?k4 ?k5 ?kA ?kF ?kK ?k6 ?k7 ?k8 ?k9 ?kB ?_ ?c2 ?c3 ?c4 ?c5
  (case kA => exact rfl); (case kF => exact rfl); (case kK => assumption)
  (case k1 => k_asm); (case k2 => k_asm); (case k3 => k_asm); (case k4 => k_asm); (case k5 => k_asm); (case k6 => k_is); (case k7 => k_is); (case k8 => k_room)
  (case k9 => exact binds_K (X.keeps F.keep) rfl (by k_is) rfl rfl rfl); (case c5 => decide); (case kB => exact locs rfl); (case c2 => exact rfl); (case c3 => exact rfl); (case c4 => exact rfl)
  intro g' L' h' FG' F' N' B' X' T' kG'
  (try dsimp only); (try k_fold)
  cases hb
  k_steps
  rename (Fr g' L' _ _) => FE
  rename (News g' L' _ _) => NE
  exact hret _ _ (gsub_fr kG' FE) fun q hq => NE.get hq
set_option maxRecDepth 100000 in
set_option maxHeartbeats 8000000 in
theorem mrowT_spec {CM DM KD BU DB IS : Addr} {oM oK oB : Obj} {iv : List Value} {ni : Nat} {rs : List Rec} {zs ms : List Int} {l : List (Int × Int)} {mk : Int} {tm : Tok} (B : Below A₀ base outer h₀) (F : Fr h₀ L s.heap m) (X : (Mine.hd.heap_39 w.params).In h₀)
    (N : News h₀ L s.heap (mrowL CM DM KD BU DB IS oM oK oB iv ni ++ rled rs))
    (T : Top p loose mean mg mb h₀) (hk : cs.kind = .function) (S : Sep (rled rs) [CM, DM, KD, BU, DB, IS]) (ap : Apart rs []) (hM : IsCM w KD oM) (hb : IsBuf w IS true oB) (hI : IsI prog w oK l) (lo : (KD == sysModules) = false)
    (ivs : iv = rs.map fun r => Value.ref r.I) (recs : RecsOk w rs zs ms) (len : rs.length ≤ 10) (hdp : dp + 12 < recursionLimit) (hun : un + 64 < cLine)
    (hret : ∀ rs' h' tk', GSub s.heap h' ((mrowL CM DM KD BU DB IS oM oK oB iv ni ++ rled rs).map (·.1)) → (∀ q ∈ mrowL CM DM KD BU DB IS oM oK oB iv ni ++ rled rs', h'.get? q.1 = some q.2) → RJ w rs l mk zs ms rs.length rs' → Q .none { s with heap := h', toks := tk' }) :
    wpAny (model prog w) (ktrTop dp un gd cn cs L a ccd cl outer) (call (.ref 70) [.ref BU, .ref CM, .int mk tm]) Q E s := by
  simp only [mrowL, List.cons_append, List.nil_append] at N
  refine wpAny_call ?_
  refine' code_defG ?k1 ?k2 ?k3 ?k4 ?k5 ?kA ?kF ?kK ?k6 ?k7 ?k8 ?k9 ?kB ?_ ?c2 ?c3 ?c4 ?c5
  (case kA => exact rfl); (case kF => exact rfl); (case kK => assumption)
  (case k1 => k_asm); (case k2 => k_asm); (case k3 => k_asm); (case k4 => k_asm); (case k5 => k_asm); (case k6 => k_is); (case k7 => k_is); (case k8 => k_room)
  (case k9 => exact binds_K (X.keeps F.keep) rfl (by k_is) rfl rfl rfl); (case c5 => decide); (case kB => exact locs rfl); (case c2 => exact rfl); (case c3 => exact rfl); (case c4 => exact rfl)
  intro g' L' h' FG' F' N' B' X' T' kG'
  (try dsimp only); (try k_fold)
  obtain ⟨x0, x1, nx⟩ := hM
  obtain ⟨y0, y1, y2, y3, ny⟩ := hb
  k_steps
  rename (Fr g' L' _ _) => FR
  rename (News g' L' _ _) => NR
  rename (AllNe _ _) => ne9
  rename (IsI _ _ _ mirT) => dT
  rename_i T9 oT9 h8 tk8 lo9 h7
  have ST : Sep (rled rs) [T9, CM, DM, KD, BU, DB, IS] := ⟨⟨Ne.symm ne9.1, Ne.symm ne9.2.1, Ne.symm ne9.2.2.1, Ne.symm ne9.2.2.2.1, Ne.symm ne9.2.2.2.2.1, Ne.symm ne9.2.2.2.2.2.1, trivial⟩, ne9.2.2.2.2.2.2, S⟩
  show wpAny _ _ (pyIter _) _ _ _
  refine' loopL (fun i m nw => ∃ rs', nw = (T9, oT9) :: (mrowL CM DM KD BU DB IS (cmD w KD x0 x1 nx) oK (bufD w IS true y0 y1 y2 y3 ny) iv ni ++ rled rs') ∧ RJ w rs l mk zs ms i rs' ∧ Names m [(Str.ofString "table", .ref T9), (Str.ofString "charmap", .ref CM), (Str.ofString "mask", .int mk tm)]) rfl FR NR ?hm ?j0 ?jk ?step ?done
  case hm => exact .tail _ (.tail _ (.tail _ (.tail _ (.tail _ (.tail _ (.head _))))))
  case j0 => exact ⟨rs, rfl, RJ.start recs, by k_extra "names9"⟩
  case jk =>
    rintro i m nw ⟨rs', rfl, _⟩
    exact .tail _ (.tail _ (.tail _ (.tail _ (.tail _ (.tail _ (.head _))))))
  case step =>
    clear FR NR
    rintro I oI i v m9 nw h9 tk9 hv ⟨rs', rfl, rj, nm⟩ hI0 F9 N9 hcl
    rw [ivs, List.getElem?_map] at hv
    obtain ⟨r0, hr0, rfl⟩ := Option.map_eq_some_iff.mp hv
    obtain ⟨r, hr, eI, eD⟩ := idOf_at rj.same hr0
    rw [← eI]
    have hinf := rj.at' i r hr
    rw [if_neg (Nat.lt_irrefl i), if_neg (Nat.lt_irrefl i)] at hinf
    obtain ⟨pre, post, rfl, hp⟩ := mid_of hr
    have SM := sep_mid (tl := []) (by rw [List.append_nil]; exact ST.same (rled_same rj.same)) (ap.same rj.same)
    rw [List.append_nil] at SM
    have hstep := fun o => RJ.step (o := o) rj hp
    clear rj hr
    obtain ⟨rI, rD, ro⟩ := r
    dsimp only at SM hinf hstep N9 ⊢
    rw [rled_mid] at N9 hI0
    dsimp only at N9 hI0
    obtain ⟨nr, hnr⟩ : ∃ nr, nr = (BU, instObj 147 DB) :: (DB, bufD w IS true y0 y1 y2 y3 ny) :: (IS, listOf iv.toArray ni) :: (rled pre ++ rled post) := ⟨_, rfl⟩
    have N7 : News g' L' h9 ((I, oI) :: (rI, instObj 101 rD) :: (rD, ro) :: (T9, oT9) :: (CM, instObj 186 DM) :: (DM, cmD w KD x0 x1 nx) :: (KD, oK) :: nr) := fun q hq => N9 q (by rw [hnr] at hq; exact permM q hq)
    have iI := SM.1.1
    have d0 := SM.1.2.1
    have d0b := SM.1.2.2.1
    have d0c := SM.1.2.2.2.1
    have d0d := SM.1.2.2.2.2.1
    have d0e := SM.1.2.2.2.2.2.1
    have d0f := SM.1.2.2.2.2.2.2.1
    have d0g := SM.1.2.2.2.2.2.2.2.1
    have aI := SM.2.1
    have d1 := SM.2.2.1.1
    have d2 := SM.2.2.1.2.1
    have d3 := SM.2.2.1.2.2.1
    have d4 := SM.2.2.1.2.2.2.1
    have d5 := SM.2.2.1.2.2.2.2.1
    have d6 := SM.2.2.1.2.2.2.2.2.1
    have d7 := SM.2.2.1.2.2.2.2.2.2.1
    have aD := SM.2.2.2.1
    have iD : @Ne Nat rD I := hI0.ne (rD, ro) (by simp)
    have jT : @Ne Nat T9 I := hI0.ne (T9, oT9) (.head _)
    have jI : @Ne Nat rI I := hI0.ne (rI, instObj 101 rD) (by simp)
    have hD7 : AllNe rD nr := by
      rw [hnr]
      exact ⟨Ne.symm d5, Ne.symm d6, Ne.symm d7, aD⟩
    clear N9
    dsimp only [cmD] at N7
    replace F9 := fr_over _ F9 nm
    cases hinf
    k_steps
    all_goals
      rename (Fr g' L' _ _) => FE
      rename (News g' L' _ _) => NE
      obtain ⟨o9, ho9, NE⟩ := news_info (w := w) (c := newC l (zs.getD i 0)) (gl := 3 + (i : Int)) (k := 2 * (i : Int)) (mk := newM l mk (zs.getD i 0) (ms.getD i 0)) NE (by
        first
          | (refine info_t ?h1 ?h2 ?h3; (case h1 => assumption); (case h2 => assumption); (case h3 => constructor))
          | (refine info_f1 ?h1 ?h3; (case h1 => assumption); (case h3 => constructor))
          | (refine info_f2 ?h1 ?h3; (case h1 => assumption); (case h3 => constructor)))
      change News _ _ _ ((I, oI) :: (rI, instObj 101 rD) :: (rD, o9) :: (T9, oT9) :: (CM, instObj 186 DM) :: (DM, cmD w KD x0 x1 nx) :: (KD, oK) :: nr) at NE
      show UnrEndW _ _ _ _ _ _
      refine turnEnd FE NE (nx := (T9, oT9) :: (mrowL CM DM KD BU DB IS (cmD w KD x0 x1 nx) oK (bufD w IS true y0 y1 y2 y3 ny) iv ni ++ rled (pre ++ ⟨rI, rD, o9⟩ :: post))) ?_ (allNe_same ?_ hI0) ⟨pre ++ ⟨rI, rD, o9⟩ :: post, rfl, hstep _ ho9, by k_extra "names9"⟩
      · rw [rled_mid, hnr]
        exact permM'
      · rw [rled_mid]
        simp only [List.map_append, List.map_cons]
  case done =>
    rintro m9 nw h9 tk9 ⟨rs', rfl, rj, nm⟩ F9 N9
    replace F9 := fr_over _ F9 nm
    clear FR NR
    have hiv : iv.length = rs.length := by rw [ivs, List.length_map]
    rw [hiv] at rj
    k_steps
    exact hret rs' _ _ (gsub_fr kG' F9) (fun q hq => N9.get (.tail _ hq)) rj
theorem mrow_K {CM DM KD BU DB IS : Addr} {oM oK oB : Obj} {iv : List Value} {ni : Nat} {rs : List Rec} {zs ms : List Int} {l : List (Int × Int)} {mk : Int} {tm : Tok} {b : Bool} {tl : List (Addr × Obj)} (B : Below A₀ base outer h₀) (F : Fr h₀ L s.heap m) (X : (Mine.hd.heap_39 w.params).In h₀)
    (N : News h₀ L s.heap (mrowL CM DM KD BU DB IS oM oK oB iv ni ++ rled rs ++ tl))
    (T : Top p loose mean mg mb h₀) (hk : cs.kind = .function) (S : Sep (rled rs ++ tl) [CM, DM, KD, BU, DB, IS]) (ap : Apart rs tl) (hM : IsCM w KD oM) (hb : IsBuf w IS b oB) (hI : IsI prog w oK l) (lo : (KD == sysModules) = false)
    (ivs : iv = rs.map fun r => Value.ref r.I) (recs : RecsOk w rs zs ms) (len : rs.length ≤ 10) (hdp : dp + 12 < recursionLimit) (hun : un + 64 < cLine)
    (hret : ∀ rs' h' tk', Fr h₀ L h' m → News h₀ L h' (mrowL CM DM KD BU DB IS oM oK oB iv ni ++ rled rs' ++ tl) → rs'.map idOf = rs.map idOf → (b = true → RJ w rs l mk zs ms rs.length rs') → (b = false → rs' = rs) → Q .none { s with heap := h', toks := tk' }) :
    wpAny (model prog w) (ktrTop dp un gd cn cs L a ccd cl outer) (call (.ref 70) [.ref BU, .ref CM, .int mk tm]) Q E s := by
  have N0 := fun q hq => N q (List.mem_append.mpr (.inl hq))
  have off : ∀ q ∈ mrowL CM DM KD BU DB IS oM oK oB iv ni ++ rled rs, AllNe q.1 tl := fun q hq => by
    rcases List.mem_append.mp hq with hq | hq
    · refine (S.ne q.1 ?_).right
      simp only [mrowL, List.mem_cons, List.not_mem_nil, or_false] at hq ⊢
      grind
    · exact ap.off q hq
  have hL : ∀ q ∈ mrowL CM DM KD BU DB IS oM oK oB iv ni ++ rled rs, q.1 ≠ L ∧ h₀.get? q.1 = none := fun q hq => (N0 q hq).2
  have after : ∀ (rs' : List Rec) (h' : Heap), rs'.map idOf = rs.map idOf → GSub s.heap h' ((mrowL CM DM KD BU DB IS oM oK oB iv ni ++ rled rs).map (·.1)) → (∀ q ∈ mrowL CM DM KD BU DB IS oM oK oB iv ni ++ rled rs', h'.get? q.1 = some q.2) →
      Fr h₀ L h' m ∧ News h₀ L h' (mrowL CM DM KD BU DB IS oM oK oB iv ni ++ rled rs' ++ tl) := fun rs' h' e G hg =>
    ⟨fr_keep F G (fun h => by obtain ⟨q, hq, e⟩ := List.mem_map.mp h; exact (hL q hq).1 e) (fun x h => by obtain ⟨q, hq, e⟩ := List.mem_map.mp h; exact e ▸ (hL q hq).2),
      news_after N G hg (by rw [List.map_append, List.map_append, rled_same e]) off⟩
  cases b with
  | false =>
    refine mrowF_spec B F X N0 T hk hb hdp fun h' tk' G hg => ?_
    obtain ⟨F', N'⟩ := after rs h' rfl G hg
    exact hret rs h' tk' F' N' rfl (fun h => nomatch h) fun _ => rfl
  | true =>
    refine mrowT_spec B F X N0 T hk (S.left) ⟨ap.nd, fun _ _ => trivial⟩ hM hb hI lo ivs recs len hdp hun fun rs' h' tk' G hg rj => ?_
    obtain ⟨F', N'⟩ := after rs' h' rj.same G hg
    exact hret rs' h' tk' F' N' rj.same (fun _ => rj) fun h => nomatch h
end
end
end Mine
namespace Mine
section
variable {prog : Program} {w : World} {p : Program} {loose : List Str} {mean : ExcName → Option Value} {mg mb : Str → Option Value}
  {dp un : Nat} {gd : Option (List Code)} {ccd : Value} {outer : List Env} {A₀ : Around} {base h₀ : Heap} {L CC fa : Addr} {oc : Obj} {m : Str → Option Value} {news : List (Addr × Obj)} {s : Shared} {Q : Flow → Shared → Prop} {E : Value → Shared → Prop}
theorem say_LA : True := by
  k_with_none
  k_with "room9" => (first | exact roomL 0 (by assumption) rfl | exact roomL 1 (by assumption) rfl | exact roomL 2 (by assumption) rfl | exact roomL 3 (by assumption) rfl | exact roomL 4 (by assumption) rfl | exact roomL 5 (by assumption) rfl | exact roomL 6 (by assumption) rfl | exact roomL 7 (by assumption) rfl | exact roomL 8 (by assumption) rfl | exact roomL 9 (by assumption) rfl | exact roomL 10 (by assumption) rfl | exact roomL 11 (by assumption) rfl | exact roomL 12 (by assumption) rfl | exact roomL 13 (by assumption) rfl | exact roomE 0 (by assumption) rfl | exact roomE 1 (by assumption) rfl | exact roomE 2 (by assumption) rfl | exact roomE 3 (by assumption) rfl | exact roomE 4 (by assumption) rfl)
  k_with "k_room" => (first | k_extra "room9" | ktr_room)
  k_with "and9" => (((repeat (with_reducible rename (_ ∧ _) => l8; first | exact l8.1 | exact Ne.symm l8.1 | exact Nat.ne_of_lt l8.1 | exact Nat.ne_of_gt l8.1 | exact Nat.ne_of_gt (Nat.lt_trans l8.1 (by assumption)) | exact Nat.ne_of_lt (Nat.lt_trans l8.1 (by assumption)) | (replace l8 := l8.2; first | exact l8 | exact Ne.symm l8 | exact Nat.ne_of_lt l8 | exact Nat.ne_of_gt l8 | skip))); done))
  k_with "k_ne" => ((refine neN ?_; (try dsimp only); first | assumption | exact Ne.symm (by assumption) | exact Nat.ne_of_lt (by assumption) | exact Nat.ne_of_gt (by assumption) | k_extra "and9" | omega))
  k_with "k_all" => (exact AllNe.ne (by assumption))
  k_with "call ref" => ((k_here; (with_reducible show wpAny _ _ (call (Value.ref 210) _ _) _ _ _); k_dflt (refine' draw_P ?k1 ?k2 ?k3 ?k4 ?k5 ?kK ?kU ?kp ?kC ?kc ?kn ?k6 ?k7 ?k8 ?kd ?_; (case kK => first | exact rfl | assumption); (case k1 => k_asm); (case k2 => k_asm); (case k3 => k_asm); (case k4 => k_asm); (case k5 => k_asm); (case kU => k_updF); (case kp => assumption); (case kC => k_mem); (case kc => assumption); (case kn => k_ne); (case k6 => first | k_extra "room9" | omega); (case k7 => first | exact of_decide_eq_true rfl | omega); (case k8 => first | exact of_decide_eq_true rfl | omega); (case kd => k_room); k_whole); intro _ _ _ _ _ _ N9 _ _ _; (try dsimp only at N9); (try dsimp only)))
  k_with "sep9" => (((repeat (rename ((_ : Nat) < _ ∧ _) => l8; obtain ⟨_, l7⟩ := l8)); (repeat (rename (@Ne Nat _ _ ∧ _) => l8; obtain ⟨_, l7⟩ := l8)); (simp only [Sep, NeL, and_true]); (repeat' apply And.intro); (all_goals first | assumption | k_ne | exact AllNe.of_lt (by assumption) | exact trivial)))
  k_with "names9" => ((repeat' (first | exact names_nil | (refine names_cons (by with_unfolding_all rfl) ?_))))
  k_with "call ref" => ((k_here; (with_reducible show wpAny _ _ (call (Value.ref 203) _ _) _ _ _); k_dflt (refine' box_P ?k1 ?k2 ?k3 ?k4 ?k5 ?kK ?kl ?ki ?kn ?kd ?_; (case kK => first | exact rfl | assumption); (case k1 => k_asm); (case k2 => k_asm); (case k3 => k_asm); (case k4 => k_asm); (case k5 => k_asm); (case kl => assumption); (case ki => assumption); (case kn => assumption); (case kd => k_room); k_whole); intro _ _ _ _ _ _ _ _ nx9 nc9 _ _ _; (simp only [AllNe, and_true] at nx9 nc9); (try dsimp only)))
  k_with "call ref" => ((k_here; (with_reducible show wpAny _ _ (call (Value.ref 215) _ _) _ _ _); k_dflt (refine' lpairs_K ?k1 ?k2 ?k3 ?k4 ?k5 ?kK ?kd ?_; (case kK => first | exact rfl | assumption); (case k1 => k_asm); (case k2 => k_asm); (case k3 => k_asm); (case k4 => k_asm); (case k5 => k_asm); (case kd => k_room); k_whole); intro _ _ _ _ _ _ _ N9 al9 ne9 _; (simp only [List.cons_append, List.nil_append, AllNe, OffAll, and_true] at N9 al9 ne9); (repeat obtain ⟨q9, al9⟩ := al9); (repeat obtain ⟨q9, ne9⟩ := ne9); (try dsimp only)))
  trivial
set_option maxRecDepth 100000 in
set_option maxHeartbeats 8000000 in
theorem partA {l : Addr} {vs : List Value} {ns : List Int} (B : Below A₀ base outer h₀) (F : Fr h₀ L s.heap m) (X : (Mine.hd.heap_39 w.params).In h₀) (N : News h₀ L s.heap [(CC, oc)])
    (T : Top p loose mean mg mb h₀) (hs : m (Str.ofString "script") = some (.ref l)) (hl : base.IsList l vs.toArray) (hi : IntsAre vs ns) (hlen : ns.length ≤ 63) (hdp : dp + 20 < recursionLimit)
    (done : ∀ (b : Bool) P C PP CO OT oP oC vP nP tl m' h' tk', Fr h₀ L h' m' →
      News h₀ L h' ((OT, listOf #[] 0) :: (CO, listOf #[] 0) :: (PP, listOf (List.toArray vP) nP) :: (P, oP) :: (C, oC) :: (CC, oc) :: tl) → Sep tl [OT, CO, PP, P, C, CC] → PoolOk oP C 1 → CellsOk oC → DatAll tl vP (lawPs.map pairDat) → Names m' [(Str.ofString "others", .ref OT), (Str.ofString "codes", .ref CO), (Str.ofString "is_backward", .bool b), (Str.ofString "pairs", .ref PP), (Str.ofString "pool", .ref P)] → Q .next { s with heap := h', toks := tk' }) :
    wpAny (model prog w) (lawTop dp un gd L CC fa ccd outer) (execs (lawPart 0 5) (lawEnv L CC fa ccd)) Q E s := by
  dsimp only [lawPart, lawRec, recOf, List.drop, List.take]
  replace F := fr_over [(Str.ofString "script", .ref l)] F (all_cons hs all_nil)
  k_steps
  rename (Fr h₀ L _ _) => FE
  rename (News h₀ L _ _) => NE
  rename (DatAll _ _ _) => DE
  rename (PoolOk _ _ (0 + 1)) => PE
  rename (CellsOk _) => cE
  refine' done _ _ _ _ _ _ _ _ _ _ _ _ _ _ FE NE ?sp PE cE DE ?nm
  case nm => k_extra "names9"
  case sp => k_extra "sep9"
end
end Mine
namespace Mine
section
variable {prog : Program} {w : World} {p : Program} {loose : List Str} {mean : ExcName → Option Value} {mg mb : Str → Option Value}
  {dp un : Nat} {gd : Option (List Code)} {ccd : Value} {outer : List Env} {A₀ : Around} {base h₀ : Heap} {L CC fa : Addr} {oc : Obj} {m : Str → Option Value} {news : List (Addr × Obj)} {s : Shared} {Q : Flow → Shared → Prop} {E : Value → Shared → Prop}
theorem say_LB : True := by
  k_with_none
  k_with "room9" => (first | exact roomL 0 (by assumption) rfl | exact roomL 1 (by assumption) rfl | exact roomL 2 (by assumption) rfl | exact roomL 3 (by assumption) rfl | exact roomL 4 (by assumption) rfl | exact roomL 5 (by assumption) rfl | exact roomL 6 (by assumption) rfl | exact roomL 7 (by assumption) rfl | exact roomL 8 (by assumption) rfl | exact roomL 9 (by assumption) rfl | exact roomL 10 (by assumption) rfl | exact roomL 11 (by assumption) rfl | exact roomL 12 (by assumption) rfl | exact roomL 13 (by assumption) rfl | exact roomE 0 (by assumption) rfl | exact roomE 1 (by assumption) rfl | exact roomE 2 (by assumption) rfl | exact roomE 3 (by assumption) rfl | exact roomE 4 (by assumption) rfl)
  k_with "execs cons" => ((k_here; (try k_gentoks); (with_reducible refine wpAny_execs_cons ?_); (try dsimp only); (try k_fold)))
  k_with "k_room" => (first | k_extra "room9" | ktr_room)
  k_with "and9" => (((repeat (with_reducible rename (_ ∧ _) => l8; first | exact l8.1 | exact Ne.symm l8.1 | exact Nat.ne_of_lt l8.1 | exact Nat.ne_of_gt l8.1 | exact Nat.ne_of_gt (Nat.lt_trans l8.1 (by assumption)) | exact Nat.ne_of_lt (Nat.lt_trans l8.1 (by assumption)) | (replace l8 := l8.2; first | exact l8 | exact Ne.symm l8 | exact Nat.ne_of_lt l8 | exact Nat.ne_of_gt l8 | skip))); done))
  k_with "k_ne" => ((refine neN ?_; (try dsimp only); first | assumption | exact Ne.symm (by assumption) | exact Nat.ne_of_lt (by assumption) | exact Nat.ne_of_gt (by assumption) | k_extra "and9" | omega))
  k_with "k_all" => (exact AllNe.ne (by assumption))
  k_with "call ref" => ((k_here; (with_reducible show wpAny _ _ (call (Value.ref 210) _ _) _ _ _); k_dflt (refine' draw_P ?k1 ?k2 ?k3 ?k4 ?k5 ?kK ?kU ?kp ?kC ?kc ?kn ?k6 ?k7 ?k8 ?kd ?_; (case kK => first | exact rfl | assumption); (case k1 => k_asm); (case k2 => k_asm); (case k3 => k_asm); (case k4 => k_asm); (case k5 => k_asm); (case kU => k_updF); (case kp => assumption); (case kC => k_mem); (case kc => assumption); (case kn => k_ne); (case k6 => first | k_extra "room9" | omega); (case k7 => first | exact of_decide_eq_true rfl | omega); (case k8 => first | exact of_decide_eq_true rfl | omega); (case kd => k_room); k_whole); intro _ _ _ _ _ _ N9 _ _ _; (try dsimp only at N9); (try dsimp only)))
  k_with "sep9" => (((repeat (rename ((_ : Nat) < _ ∧ _) => l8; obtain ⟨_, l7⟩ := l8)); (repeat (rename (@Ne Nat _ _ ∧ _) => l8; obtain ⟨_, l7⟩ := l8)); (simp only [Sep, NeL, and_true]); (repeat' apply And.intro); (all_goals first | assumption | k_ne | exact AllNe.of_lt (by assumption) | exact trivial)))
  k_with "names9" => ((repeat' (first | exact names_nil | (refine names_cons (by with_unfolding_all rfl) ?_))))
  k_with "sub9" => ((intro _ hq; repeat (first | exact hq | exact List.mem_append.mpr (.inl hq) | refine List.Mem.tail _ ?_)))
  k_with "pyIter ref" => ((k_here; (with_reducible show wpAny _ _ (pyIter (Value.ref _)) (fun it s₂ => LoopAtV _ _ _ _ _ _ _ _ _ it s₂) _ _); refine stop_ ?_))
  k_with "call builtin:len" => ((k_here; (with_reducible show wpAny _ _ (call (Value.builtin "len") [Value.ref _]) _ _ _); k_dflt (refine' lenL_K ?k1 ?k2 ?k3 ?k4 ?_; (case k1 => k_asm); (case k2 => k_mem); (case k3 => assumption); (case k4 => omega); k_whole); intro _ _; (try dsimp only)))
  k_with "subscriptTail" => ((k_here; (with_reducible show wpAny _ _ (subscriptTail _ _ (Value.ref _) (Value.int _ _)) _ _ _); k_dflt (refine' pairAt_K (ps := lawPs) ?k1 ?k2 ?k3 ?k4 ?k5 ?k6 ?k7 ?_ ?k8; (case k1 => k_asm); (case k2 => k_mem); (case k3 => assumption); (case k4 => k_extra "sub9"); (case k5 => omega); (case k6 => omega); (case k7 => omega); (case k8 => with_unfolding_all rfl); k_whole); intro _ _ _ _ _ _; (try dsimp only)))
  trivial
/-- the codes drawn so far -/
structure BJ (OT CO PP P C CC : Addr) (vP : List Value) (nP : Nat) (oC oc : Obj) (tl : List (Addr × Obj)) (b : Bool) (i : Nat) (m : Str → Option Value) (nw : List (Addr × Obj)) (os cs : List Value) (no nc : Nat) (oP : Obj) (zs : List (Int × Int)) : Prop where
  led : nw = (OT, listOf os.toArray no) :: (CO, listOf cs.toArray nc) :: (PP, listOf vP.toArray nP) :: (P, oP) :: (C, oC) :: (CC, oc) :: tl
  pool : PoolOk oP C (2 + 3 * i)
  ios : IntsAre os (zs.map (·.2))
  ics : IntsAre cs (zs.map (·.1))
  len : zs.length = i
  good : ∀ z ∈ zs, GoodZ z
  names : Names m [(Str.ofString "others", .ref OT), (Str.ofString "codes", .ref CO), (Str.ofString "is_backward", .bool b), (Str.ofString "pairs", .ref PP), (Str.ofString "pool", .ref P)]
/-- the same, what it speaks of hidden -/
inductive BJE (OT CO PP P C CC : Addr) (vP : List Value) (nP : Nat) (oC oc : Obj) (tl : List (Addr × Obj)) (b : Bool) (i : Nat) (m : Str → Option Value) (nw : List (Addr × Obj)) : Prop
  | mk (os cs : List Value) (no nc : Nat) (oP : Obj) (zs : List (Int × Int)) (j : BJ OT CO PP P C CC vP nP oC oc tl b i m nw os cs no nc oP zs) : BJE OT CO PP P C CC vP nP oC oc tl b i m nw
theorem BJ.close {OT CO PP P C : Addr} {vP : List Value} {nP i k : Nat} {oC oP' : Obj} {tl own : List (Addr × Obj)} {b : Bool} {os cs : List Value} {no nc : Nat} {zs : List (Int × Int)} {x y : Int} {tx ty : Tok} {m' : Str → Option Value} {s₁ : Shared} {h' : Heap} {tk : Nat}
    (ios : IntsAre os (zs.map (·.2))) (ics : IntsAre cs (zs.map (·.1))) (len : zs.length = i) (good : ∀ z ∈ zs, GoodZ z)
    (F : Fr h₀ L h' m') (N : News h₀ L h' ((OT, listOf (os.toArray.push (.int y ty)) (no + 1)) :: (CO, listOf (cs.toArray.push (.int x tx)) (nc + 1)) :: (PP, listOf vP.toArray nP) :: (P, oP') :: (C, oC) :: (CC, oc) :: (tl ++ own)))
    (off : OwnOff own (((OT, listOf os.toArray no) :: (CO, listOf cs.toArray nc) :: (PP, listOf vP.toArray nP) :: (P, oP') :: (C, oC) :: (CC, oc) :: tl).map (·.1)))
    (pool : PoolOk oP' C k) (hk : k ≤ 2 + 3 * (i + 1)) (g : GoodZ (x, y))
    (nm : Names m' [(Str.ofString "others", .ref OT), (Str.ofString "codes", .ref CO), (Str.ofString "is_backward", .bool b), (Str.ofString "pairs", .ref PP), (Str.ofString "pool", .ref P)]) :
    InvEndG h₀ L (fun m nw => BJE OT CO PP P C CC vP nP oC oc tl b (i + 1) m nw) own s₁ { s₁ with heap := h', toks := tk } := by
  simp only [List.push_toArray] at N
  refine turnEndG (nx := (OT, listOf (os ++ [Value.int y ty]).toArray (no + 1)) :: (CO, listOf (cs ++ [Value.int x tx]).toArray (nc + 1)) :: (PP, listOf vP.toArray nP) :: (P, oP') :: (C, oC) :: (CC, oc) :: tl) F N ?_ ?_ off
    ⟨os ++ [.int y ty], cs ++ [.int x tx], no + 1, nc + 1, oP', zs ++ [(x, y)], rfl, pool.mono hk, ?_, ?_, ?_, ?_, nm⟩
  · exact cons_sub (cons_sub (cons_sub (cons_sub (cons_sub (cons_sub app_l)))))
  · exact cons_in (cons_in (cons_in (cons_in (cons_in (cons_in app_r)))))
  · rw [List.map_append]; exact ints_snoc ios y ty
  · rw [List.map_append]; exact ints_snoc ics x tx
  · rw [List.length_append, len]; rfl
  · intro z hz
    rcases List.mem_append.mp hz with hz | hz
    · exact good z hz
    · rw [List.mem_singleton.mp hz]; exact g
set_option maxRecDepth 100000 in
set_option maxHeartbeats 8000000 in
theorem partB {OT CO PP P C : Addr} {oP oC : Obj} {vP : List Value} {nP : Nat} {tl : List (Addr × Obj)} {b : Bool} (B : Below A₀ base outer h₀) (F : Fr h₀ L s.heap m) (X : (Mine.hd.heap_39 w.params).In h₀)
    (N : News h₀ L s.heap ((OT, listOf #[] 0) :: (CO, listOf #[] 0) :: (PP, listOf (List.toArray vP) nP) :: (P, oP) :: (C, oC) :: (CC, oc) :: tl)) (S : Sep tl [OT, CO, PP, P, C, CC])
    (T : Top p loose mean mg mb h₀) (pool : PoolOk oP C 1) (cells : CellsOk oC) (dat : DatAll tl vP (lawPs.map pairDat))
    (nm : Names m [(Str.ofString "others", .ref OT), (Str.ofString "codes", .ref CO), (Str.ofString "is_backward", .bool b), (Str.ofString "pairs", .ref PP), (Str.ofString "pool", .ref P)]) (hdp : dp + 20 < recursionLimit) (hE : PassesOwn (model prog w) (lawTop dp un gd L CC fa ccd outer) (lawEnv L CC fa ccd) E)
    (done : ∀ n os cs no nc oP' zs m' nw h' tk', 1 ≤ n → n ≤ 10 → Fr h₀ L h' m' → News h₀ L h' nw → BJ OT CO PP P C CC vP nP oC oc tl b n m' nw os cs no nc oP' zs → Q .next { s with heap := h', toks := tk' }) :
    wpAny (model prog w) (lawTop dp un gd L CC fa ccd outer) (execs (lawPart 5 1) (lawEnv L CC fa ccd)) Q E s := by
  dsimp only [lawPart, lawRec, recOf, List.drop, List.take]
  have S0 := S
  refine sepE S ?_
  dsimp only [SepK, NeK]
  intros
  have hvP : vP.length = 88 := by have := dat.length; rw [this]; decide
  replace F := fr_over _ F nm
  walk1
  (rename Fr _ _ _ _ => lF'); (with_unfolding_all refine' For_invVF (hE := hE) lF' ?k1 ?k2 ?_; (case k1 => exact rfl); (case k2 => exact rfl); k_whole)
  k_steps
  rename (IsRange _ _ _ _ _ _ _ _) => hr
  rename (Fr h₀ L _ _) => FR
  rename (News h₀ L _ _) => NR
  rename (PoolOk _ _ (1 + 1)) => PR
  rename_i d9 t9 oP9 h9 tk9 F9 N9 a9 b9 hR tkR t1 u1 v1 keepR
  obtain ⟨n, hn⟩ : ∃ n : Nat, 1 + d9 = (n : Int) := ⟨(1 + d9).toNat, by omega⟩
  show wpAny _ _ (pyIter _) _ _ _
  refine loopR (n := n) (fun i m nw => BJE OT CO PP P C CC vP nP oC oc tl b i m nw) (by rfl) hr (small_one (by omega) (by omega) (by omega) (by omega)) (by rw [hn, rangeSize_nat]; simp) FR NR ?j0 ?turn ?done
  case j0 => exact ⟨_, _, _, _, _, [], rfl, PR, .nil, .nil, rfl, (fun _ h => nomatch h), by k_extra "names9"⟩
  case turn =>
    clear FR NR lF' hr keepR
    rintro i t m1 nx h8 tk8 own hi ⟨os, cs, no, nc, oP', zs, j⟩ off F8 N8
    obtain ⟨led, pool', ios, ics, len, good, names⟩ := j
    subst led
    have S1 := Sep.own (tl := tl) off (by simp) S0
    refine sepE S1 ?_
    dsimp only [SepK, NeK]
    intros
    simp only [List.cons_append] at N8
    replace F8 := fr_overIn names F8
    k_steps
    all_goals first
      | (exfalso; omega)
      | ((rename (Fr h₀ L _ _) => FE); (rename (News h₀ L _ _) => NE); (rename (PoolOk _ _ _) => PE); (show InvEndG _ _ _ _ _ _); (refine BJ.close ios ics len good FE NE off PE (by omega) ?_ (by k_extra "names9")); first | exact good_plain (by assumption) (by assumption) | exact good_swap (by assumption) | exact good_pair (by assumption))
  case done =>
    rintro m1 nx h8 tk8 ⟨os, cs, no, nc, oP', zs, j⟩ F8 N8
    k_steps
    exact done n os cs no nc oP' zs m1 nx _ _ (by omega) (by omega) F8 N8 j
end
end Mine
namespace Mine
section
variable {prog : Program} {w : World} {p : Program} {loose : List Str} {mean : ExcName → Option Value} {mg mb : Str → Option Value}
  {dp un : Nat} {gd : Option (List Code)} {ccd : Value} {outer : List Env} {A₀ : Around} {base h₀ : Heap} {L CC fa : Addr} {oc : Obj} {m : Str → Option Value} {news : List (Addr × Obj)} {s : Shared} {Q : Flow → Shared → Prop} {E : Value → Shared → Prop}
theorem say_LC : True := by
  k_with_none
  k_with "room9" => (first | exact roomL 0 (by assumption) rfl | exact roomL 1 (by assumption) rfl | exact roomL 2 (by assumption) rfl | exact roomL 3 (by assumption) rfl | exact roomL 4 (by assumption) rfl | exact roomL 5 (by assumption) rfl | exact roomL 6 (by assumption) rfl | exact roomL 7 (by assumption) rfl | exact roomL 8 (by assumption) rfl | exact roomL 9 (by assumption) rfl | exact roomL 10 (by assumption) rfl | exact roomL 11 (by assumption) rfl | exact roomL 12 (by assumption) rfl | exact roomL 13 (by assumption) rfl | exact roomE 0 (by assumption) rfl | exact roomE 1 (by assumption) rfl | exact roomE 2 (by assumption) rfl | exact roomE 3 (by assumption) rfl | exact roomE 4 (by assumption) rfl)
  k_with "k_room" => (first | k_extra "room9" | ktr_room)
  k_with "and9" => (((repeat (with_reducible rename (_ ∧ _) => l8; first | exact l8.1 | exact Ne.symm l8.1 | exact Nat.ne_of_lt l8.1 | exact Nat.ne_of_gt l8.1 | exact Nat.ne_of_gt (Nat.lt_trans l8.1 (by assumption)) | exact Nat.ne_of_lt (Nat.lt_trans l8.1 (by assumption)) | (replace l8 := l8.2; first | exact l8 | exact Ne.symm l8 | exact Nat.ne_of_lt l8 | exact Nat.ne_of_gt l8 | skip))); done))
  k_with "k_ne" => ((refine neN ?_; (try dsimp only); first | assumption | exact Ne.symm (by assumption) | exact Nat.ne_of_lt (by assumption) | exact Nat.ne_of_gt (by assumption) | k_extra "and9" | omega))
  k_with "k_all" => (exact AllNe.ne (by assumption))
  k_with "call ref" => ((k_here; (with_reducible show wpAny _ _ (call (Value.ref 210) _ _) _ _ _); k_dflt (refine' draw_P ?k1 ?k2 ?k3 ?k4 ?k5 ?kK ?kU ?kp ?kC ?kc ?kn ?k6 ?k7 ?k8 ?kd ?_; (case kK => first | exact rfl | assumption); (case k1 => k_asm); (case k2 => k_asm); (case k3 => k_asm); (case k4 => k_asm); (case k5 => k_asm); (case kU => k_updF); (case kp => assumption); (case kC => k_mem); (case kc => assumption); (case kn => k_ne); (case k6 => first | k_extra "room9" | omega); (case k7 => first | exact of_decide_eq_true rfl | omega); (case k8 => first | exact of_decide_eq_true rfl | omega); (case kd => k_room); k_whole); intro _ _ _ _ _ _ N9 _ _ _; (try dsimp only at N9); (try dsimp only)))
  k_with "sep9" => (((repeat (rename ((_ : Nat) < _ ∧ _) => l8; obtain ⟨_, l7⟩ := l8)); (repeat (rename (@Ne Nat _ _ ∧ _) => l8; obtain ⟨_, l7⟩ := l8)); (simp only [Sep, NeL, and_true]); (repeat' apply And.intro); (all_goals first | assumption | (refine neN ?_; omega) | exact AllNe.of_lt (by assumption) | exact trivial)))
  k_with "names9" => ((repeat' (first | exact names_nil | (refine names_cons (by with_unfolding_all rfl) ?_))))
  k_with "sub9" => ((intro _ hq; repeat (first | exact hq | exact List.mem_append.mpr (.inl hq) | refine List.Mem.tail _ ?_)))
  k_with "pyIter ref" => ((k_here; (with_reducible show wpAny _ _ (pyIter (Value.ref _)) (fun it s₂ => LoopAtV _ _ _ _ _ _ _ _ _ it s₂) _ _); refine stop_ ?_))
  k_with "call builtin:len" => ((k_here; (with_reducible show wpAny _ _ (call (Value.builtin "len") [Value.ref _]) _ _ _); k_dflt (refine' lenL_K ?k1 ?k2 ?k3 ?k4 ?_; (case k1 => k_asm); (case k2 => k_mem); (case k3 => assumption); (case k4 => omega); k_whole); intro _ _; (try dsimp only)))
  k_with "call type:zip" => ((k_here; refine stop_ ?_))
  k_with "call ref" => ((k_here; (with_reducible show wpAny _ _ (call (Value.ref 55) _ _) _ _ _); k_dflt (refine' mirrored_K ?k1 ?k2 ?k3 ?k4 ?k5 ?kK ?kd ?_; (case kK => first | exact rfl | assumption); (case k1 => k_asm); (case k2 => k_asm); (case k3 => k_asm); (case k4 => k_asm); (case k5 => k_asm); (case kd => k_room); k_whole); intro _ _ _ _ _; (try dsimp only)))
  trivial
set_option maxRecDepth 100000 in
set_option maxHeartbeats 8000000 in
/-- a turn of the first loop that asks -/
theorem stepC {x y : Int} {tx ty : Tok} (B : Below A₀ base outer h₀) (F : Fr h₀ L s.heap m) (X : (Mine.hd.heap_39 w.params).In h₀) (N : News h₀ L s.heap news) (T : Top p loose mean mg mb h₀) (g : GoodZ (x, y))
    (nm : Names m [(Str.ofString "code", .int x tx), (Str.ofString "other", .int y ty)]) (hdp : dp + 20 < recursionLimit)
    (done : ∀ h' tk', Fr h₀ L h' m → News h₀ L h' news → Q .next { s with heap := h', toks := tk' }) :
    wpAny (model prog w) (lawTop dp un gd L CC fa ccd outer) (execs (loopBody 6) (lawEnv L CC fa ccd)) Q E s := by
  dsimp only [loopBody, lawRec, recOf]
  have mo := over_eq nm
  replace F := fr_over _ F nm
  obtain ⟨g1, g2⟩ := g
  k_steps
  all_goals first
    | exact absurd g1 (by assumption)
    | exact absurd g2 (by assumption)
    | (rename (Fr h₀ L _ _) => FE; rename (News h₀ L _ _) => NE; rw [mo] at FE; exact done _ _ FE NE)
theorem say_LCb : True := by
  k_with "execs cons" => ((k_here; k_dflt (show wpAny _ _ (execs (loopBody 6) _) _ _ _); k_dflt (refine' stepC ?B ?F ?X ?N ?T ?g ?nm ?hd ?_; (case B => k_asm); (case F => k_asm); (case X => k_asm); (case N => k_asm); (case T => k_asm); (case nm => k_extra "names9"); (case g => assumption); (case hd => assumption)); intro _ _ _ _))
  trivial
theorem ia_cons {vs : List Value} {n : Int} {r : List Int} (h : IntsAre vs (n :: r)) : ∃ t vs', vs = .int n t :: vs' ∧ IntsAre vs' r := by
  cases h with | cons _ t h => exact ⟨t, _, rfl, h⟩
theorem ia_nil {vs : List Value} (h : IntsAre vs []) : vs = [] := by
  cases h; rfl
theorem zip_cases {P : List Value → List Value → Prop} {os ws : List Value} {zs : List (Int × Int)} (l1 : 1 ≤ zs.length) (ios : IntsAre os (zs.map (·.2))) (iW : IntsAre ws ((zs.map (·.1)).take 2)) (g : ∀ z ∈ zs, GoodZ z) (k1 : ∀ z u v, GoodZ z → P [.int z.2 u] [.int z.1 v])
    (k2 : ∀ z1 z2 u1 u2 v1 v2 os', GoodZ z1 → GoodZ z2 → P (.int z1.2 u1 :: .int z2.2 u2 :: os') [.int z1.1 v1, .int z2.1 v2]) : P os ws := by
  cases zs with
  | nil => cases l1
  | cons z r =>
    obtain ⟨u, os', rfl, io⟩ := ia_cons ios
    obtain ⟨v, ws', rfl, iw⟩ := ia_cons iW
    cases r with
    | nil =>
      rw [ia_nil io, ia_nil iw]
      exact k1 z u v (g z (.head _))
    | cons z2 r =>
      obtain ⟨u2, os2, rfl, _⟩ := ia_cons io
      obtain ⟨v2, ws2, rfl, iw2⟩ := ia_cons iw
      rw [ia_nil iw2]
      exact k2 z z2 u u2 v v2 os2 (g z (.head _)) (g z2 (.tail _ (.head _)))
set_option maxRecDepth 100000 in
set_option maxHeartbeats 8000000 in
theorem partC {OT CO : Addr} {PP P : Addr} {os cs : List Value} {no nc : Nat} {zs : List (Int × Int)} {R : List (Addr × Obj)} {b : Bool} (B : Below A₀ base outer h₀) (F : Fr h₀ L s.heap m) (X : (Mine.hd.heap_39 w.params).In h₀)
    (N : News h₀ L s.heap ((OT, listOf os.toArray no) :: (CO, listOf cs.toArray nc) :: R))
    (T : Top p loose mean mg mb h₀) (ios : IntsAre os (zs.map (·.2))) (ics : IntsAre cs (zs.map (·.1))) (len1 : 1 ≤ zs.length) (len2 : zs.length ≤ 10) (good : ∀ z ∈ zs, GoodZ z)
    (nm : Names m (names6 OT CO b PP P)) (hdp : dp + 20 < recursionLimit) (hE : PassesOwn (model prog w) (lawTop dp un gd L CC fa ccd outer) (lawEnv L CC fa ccd) E)
    (done : ∀ m' h' tk', Fr h₀ L h' m' → News h₀ L h' ((OT, listOf os.toArray no) :: (CO, listOf cs.toArray nc) :: R) → Names m' (names6 OT CO b PP P) → Q .next { s with heap := h', toks := tk' }) :
    wpAny (model prog w) (lawTop dp un gd L CC fa ccd outer) (execs (lawPart 6 1) (lawEnv L CC fa ccd)) Q E s := by
  dsimp only [lawPart, lawRec, recOf, List.drop, List.take]
  replace F := fr_over _ F nm
  walk1
  (rename Fr _ _ _ _ => lF'); (with_unfolding_all refine' For_turns (hE := hE) lF' ?_); k_whole
  k_steps
  rename (Fr h₀ L _ _) => FR
  rename (News h₀ L _ _) => NR
  rename (IntsAre _ (List.take _ _)) => iW
  clear nm ics len2
  show wpAny _ _ (call _ _) _ _ _
  revert NR done
  apply zip_cases len1 ios iW good
  · intro z1 u1 v1 g1 done NR
    clear iW ios len1 good
    refine ktu_zip (by rfl) FR NR (.head _) rfl rfl (.tail _ (.head _)) rfl rfl fun I lI => ?_
    clear FR NR
    k_steps
    rename (Fr h₀ L _ _) => FE
    rename (News h₀ L _ _) => NE
    show UnrEndW _ _ _ _ _ _
    refine zipEnd FE NE (zipOff lI) ⟨⟨.head _, .tail _ (.head _), trivial⟩, ?_⟩
    clear FE NE
    refine ItemsRest.zero fun h7 tk7 F7 N7 => ?_
    k_steps
    exact done _ _ _ F7 (fun q hq => N7 q (.tail _ hq)) (by k_extra "names9")
  · intro z1 z2 u1 u2 v1 v2 os' g1 g2 done NR
    clear iW ios len1 good
    refine ktu_zip (by rfl) FR NR (.head _) rfl rfl (.tail _ (.head _)) rfl rfl fun I lI => ?_
    clear FR NR
    k_steps
    rename (Fr h₀ L _ _) => FE
    rename (News h₀ L _ _) => NE
    show UnrEndW _ _ _ _ _ _
    refine zipEnd FE NE (zipOff lI) ⟨⟨.head _, .tail _ (.head _), trivial⟩, ?_⟩
    clear FE NE
    k_steps
    rename (Fr h₀ L _ _) => FE
    rename (News h₀ L _ _) => NE
    show UnrEndW _ _ _ _ _ _
    refine zipEnd FE NE (zipOff lI) ⟨⟨.head _, .tail _ (.head _), trivial⟩, ?_⟩
    clear FE NE
    refine ItemsRest.zero fun h7 tk7 F7 N7 => ?_
    k_steps
    exact done _ _ _ F7 (fun q hq => N7 q (.tail _ hq)) (by k_extra "names9")
end
end Mine
namespace Mine
section
variable {prog : Program} {w : World} {p : Program} {loose : List Str} {mean : ExcName → Option Value} {mg mb : Str → Option Value}
  {dp un : Nat} {gd : Option (List Code)} {ccd : Value} {outer : List Env} {A₀ : Around} {base h₀ : Heap} {L CC fa : Addr} {oc : Obj} {m : Str → Option Value} {news : List (Addr × Obj)} {s : Shared} {Q : Flow → Shared → Prop} {E : Value → Shared → Prop}
theorem say_LD : True := by
  k_with_none
  k_with "room9" => (first | exact roomL 0 (by assumption) rfl | exact roomL 1 (by assumption) rfl | exact roomL 2 (by assumption) rfl | exact roomL 3 (by assumption) rfl | exact roomL 4 (by assumption) rfl | exact roomL 5 (by assumption) rfl | exact roomL 6 (by assumption) rfl | exact roomL 7 (by assumption) rfl | exact roomL 8 (by assumption) rfl | exact roomL 9 (by assumption) rfl | exact roomL 10 (by assumption) rfl | exact roomL 11 (by assumption) rfl | exact roomL 12 (by assumption) rfl | exact roomL 13 (by assumption) rfl | exact roomE 0 (by assumption) rfl | exact roomE 1 (by assumption) rfl | exact roomE 2 (by assumption) rfl | exact roomE 3 (by assumption) rfl | exact roomE 4 (by assumption) rfl)
  k_with "k_room" => (first | k_extra "room9" | ktr_room)
  k_with "and9" => (((repeat (with_reducible rename (_ ∧ _) => l8; first | exact l8.1 | exact Ne.symm l8.1 | exact Nat.ne_of_lt l8.1 | exact Nat.ne_of_gt l8.1 | exact Nat.ne_of_gt (Nat.lt_trans l8.1 (by assumption)) | exact Nat.ne_of_lt (Nat.lt_trans l8.1 (by assumption)) | (replace l8 := l8.2; first | exact l8 | exact Ne.symm l8 | exact Nat.ne_of_lt l8 | exact Nat.ne_of_gt l8 | skip))); done))
  k_with "k_ne" => ((refine neN ?_; (try dsimp only); first | assumption | exact Ne.symm (by assumption) | exact Nat.ne_of_lt (by assumption) | exact Nat.ne_of_gt (by assumption) | k_extra "and9" | omega))
  k_with "k_all" => (exact AllNe.ne (by assumption))
  k_with "call ref" => ((k_here; (with_reducible show wpAny _ _ (call (Value.ref 210) _ _) _ _ _); k_dflt (refine' draw_P ?k1 ?k2 ?k3 ?k4 ?k5 ?kK ?kU ?kp ?kC ?kc ?kn ?k6 ?k7 ?k8 ?kd ?_; (case kK => first | exact rfl | assumption); (case k1 => k_asm); (case k2 => k_asm); (case k3 => k_asm); (case k4 => k_asm); (case k5 => k_asm); (case kU => k_updF); (case kp => assumption); (case kC => k_mem); (case kc => assumption); (case kn => k_ne); (case k6 => first | k_extra "room9" | omega); (case k7 => first | exact of_decide_eq_true rfl | omega); (case k8 => first | exact of_decide_eq_true rfl | omega); (case kd => k_room); k_whole); intro _ _ _ _ _ _ N9 _ _ _; (try dsimp only at N9); (try dsimp only)))
  k_with "sep9" => (((repeat (rename ((_ : Nat) < _ ∧ _) => l8; obtain ⟨_, l7⟩ := l8)); (repeat (rename (@Ne Nat _ _ ∧ _) => l8; obtain ⟨_, l7⟩ := l8)); (simp only [Sep, NeL, and_true]); (repeat' apply And.intro); (all_goals first | assumption | (refine neN ?_; omega) | exact AllNe.of_lt (by assumption) | exact trivial)))
  k_with "names9" => ((repeat' (first | exact names_nil | (refine names_cons (by with_unfolding_all rfl) ?_))))
  k_with "sub9" => ((intro _ hq; repeat (first | exact hq | exact List.mem_append.mpr (.inl hq) | refine List.Mem.tail _ ?_)))
  k_with "pyIter ref" => ((k_here; (with_reducible show wpAny _ _ (pyIter (Value.ref _)) (fun it s₂ => LoopAtV _ _ _ _ _ _ _ _ _ it s₂) _ _); refine stop_ ?_))
  k_with "call builtin:len" => ((k_here; (with_reducible show wpAny _ _ (call (Value.builtin "len") [Value.ref _]) _ _ _); k_dflt (refine' lenL_K ?k1 ?k2 ?k3 ?k4 ?_; (case k1 => k_asm); (case k2 => k_mem); (case k3 => assumption); (case k4 => omega); k_whole); intro _ _; (try dsimp only)))
  k_with "call ref" => ((k_here; (with_reducible show wpAny _ _ (call (Value.ref 48) _ _) _ _ _); k_dflt (refine' mtable_K ?k1 ?k2 ?k3 ?k4 ?k5 ?kK ?kd ?_; (case kK => first | exact rfl | assumption); (case k1 => k_asm); (case k2 => k_asm); (case k3 => k_asm); (case k4 => k_asm); (case k5 => k_asm); (case kd => k_room); k_whole); intro _ _ _ _ _ _ ne9 _ _; (simp only [AllNe, OffAll, and_true] at ne9); (try dsimp only)))
  k_with "call builtin:dict.get" => ((k_here; (with_reducible show wpAny _ _ (call (Value.builtin "dict.get") [Value.ref _, Value.int _ _, Value.int _ _]) _ _ _); k_dflt (refine' getI ?k1 ?k2 ?k3 ?k4 ?_; (case k1 => k_asm); (case k2 => k_mem); (case k3 => assumption); (case k4 => assumption); k_whole); intro _; (try dsimp only)))
  k_with "getMethod ref" => ((k_here; k_dflt (refine' getMethodI ?k1 ?k2 ?k3 ?k4 ?_; (case k1 => k_asm); (case k2 => k_mem); (case k3 => assumption); (case k4 => assumption); k_whole); (try dsimp only)))
  k_with "call builtin:len" => ((k_here; (with_reducible show wpAny _ _ (call (Value.builtin "len") [Value.ref _]) _ _ _); k_dflt (refine' lenI ?k1 ?k2 ?k3 ?k4 ?k5 ?_; (case k1 => k_asm); (case k2 => k_mem); (case k3 => assumption); (case k4 => assumption); (case k5 => rw [mirT_len]; decide); k_whole); (try dsimp only)))
  k_with "eval ListComp" => ((k_here; k_dflt (refine Mine.ListComp_stop (F₀ := by k_asm) (by with_unfolding_all rfl) (by decide) (by rfl) (by decide) (by rfl) ?_)))
  trivial
set_option maxRecDepth 100000 in
set_option maxHeartbeats 8000000 in
theorem partD {OT CO PP P C : Addr} {oP oC : Obj} {vP os cs : List Value} {nP no nc : Nat} {zs : List (Int × Int)} {tl : List (Addr × Obj)} {b : Bool} {v₀ : Option Value} (B : Below A₀ base outer h₀) (F : Fr h₀ L s.heap m) (X : (Mine.hd.heap_39 w.params).In h₀)
    (N : News h₀ L s.heap ((OT, listOf os.toArray no) :: (CO, listOf cs.toArray nc) :: (PP, listOf (List.toArray vP) nP) :: (P, oP) :: (C, oC) :: (CC, oc) :: tl)) (S : Sep tl [OT, CO, PP, P, C, CC])
    (T : Top p loose mean mg mb h₀) (ios : IntsAre os (zs.map (·.2))) (ics : IntsAre cs (zs.map (·.1))) (len2 : zs.length ≤ 10) (good : ∀ z ∈ zs, GoodZ z) (hvP : vP.length = 88) (hoc : oc.data = .cell v₀)
    (nm : Names m (names6 OT CO b PP P)) (hdp : dp + 20 < recursionLimit) (hun : un + 64 < cLine) (hE : PassesOwn (model prog w) (lawTop dp un gd L CC fa ccd outer) (lawEnv L CC fa ccd) E)
    (done : ∀ m' h' tk' oc', Fr h₀ L h' m' → News h₀ L h' ((OT, listOf os.toArray no) :: (CO, listOf cs.toArray nc) :: (PP, listOf (List.toArray vP) nP) :: (P, oP) :: (C, oC) :: (CC, oc') :: tl) → Names m' (names6 OT CO b PP P) → Q .next { s with heap := h', toks := tk' }) :
    wpAny (model prog w) (lawTop dp un gd L CC fa ccd outer) (execs (lawPart 7 2) (lawEnv L CC fa ccd)) Q E s := by
  dsimp only [lawPart, lawRec, recOf, List.drop, List.take]
  refine sepE S ?_
  dsimp only [SepK, NeK]
  intros
  have nmS : Names m [(Str.ofString "others", .ref OT), (Str.ofString "codes", .ref CO), (Str.ofString "pairs", .ref PP)] := names_sub nm (by refine subC (by k_mem) (subC (by k_mem) (subC (by k_mem) (fun _ h => nomatch h))))
  replace F := fr_over _ F nmS
  k_steps
  rename (Fr h₀ L _ _) => FR
  rename (News h₀ L _ _) => NR
  rename (_ = Data.cell (some _)) => dT
  rename (IsI _ _ _ _) => dI
  rename (_ = false) => lo
  rename_i DT oT hT tkT hA oc' t9 tkB
  have hcs : cs.toArray.size = zs.length := by rw [List.size_toArray, ics.length, List.length_map]
  show LCg.CompSrc _ _ _ _ _ _ _ _ _ _ _ _ _ _
  refine LCg.CompSrc.ledger rfl FR NR (.tail _ (.tail _ (.head _))) (by rw [hcs, sizeLine_eq]; omega) fun g1 => ?_
  refine compJ (fun i ys nw => nw = (DT, oT) :: (OT, listOf os.toArray no) :: (CO, listOf cs.toArray nc) :: (PP, listOf (List.toArray vP) nP) :: (P, oP) :: (C, oC) :: (CC, oc') :: tl ∧ IntsAre ys ((zs.take i).map fun z => mirOf z.1)) ?_ ?_ _ 0 [] _ (Nat.zero_add _) ⟨rfl, .nil⟩
  · rintro i ys nw v I oI C9 oC9 D9 m₂ h8 tk8 E8 hi ⟨rfl, iy⟩ hP hC hx F8 N8 o8 ne8
    obtain ⟨n, t, hn, rfl⟩ := ints_get ics (by simpa using hP)
    rw [List.getElem?_map] at hn
    obtain ⟨z, hz, rfl⟩ := Option.map_eq_some_iff.mp hn
    k_steps
    show LCg.CompEnd _ _ _ _ _ _ _ _ _ _ _ _ _ _
    refine compEnd _ F8 N8 (fun q hq => hq) o8 (.inr ⟨_, .tail _ (.tail _ (.head _)), rfl, _, rfl⟩) ⟨rfl, ?_⟩
    rw [take_map_succ hz]
    exact ints_snoc iy _ _
  · rintro ys nw ⟨rfl, iy⟩
    rw [hcs, List.take_length, List.map_congr_left (g := (·.2)) fun z hz => (good z hz).1] at iy
    k_steps
    rename (Fr h₀ L _ _) => FE
    rename (News h₀ L _ _) => NE
    exact done _ _ _ oc' FE (fun q hq => NE q (.tail _ (.tail _ hq))) (names_same nmS nm)
end
end Mine
namespace Mine
section
variable {prog : Program} {w : World} {p : Program} {loose : List Str} {mean : ExcName → Option Value} {mg mb : Str → Option Value}
  {dp un : Nat} {gd : Option (List Code)} {ccd : Value} {outer : List Env} {A₀ : Around} {base h₀ : Heap} {L CC fa : Addr} {oc : Obj} {m : Str → Option Value} {news : List (Addr × Obj)} {s : Shared} {Q : Flow → Shared → Prop} {E : Value → Shared → Prop}
theorem say_LE : True := by
  k_with_none
  k_with "room9" => (first | exact roomL 0 (by assumption) rfl | exact roomL 1 (by assumption) rfl | exact roomL 2 (by assumption) rfl | exact roomL 3 (by assumption) rfl | exact roomL 4 (by assumption) rfl | exact roomL 5 (by assumption) rfl | exact roomL 6 (by assumption) rfl | exact roomL 7 (by assumption) rfl | exact roomL 8 (by assumption) rfl | exact roomL 9 (by assumption) rfl | exact roomL 10 (by assumption) rfl | exact roomL 11 (by assumption) rfl | exact roomL 12 (by assumption) rfl | exact roomL 13 (by assumption) rfl | exact roomE 0 (by assumption) rfl | exact roomE 1 (by assumption) rfl | exact roomE 2 (by assumption) rfl | exact roomE 3 (by assumption) rfl | exact roomE 4 (by assumption) rfl)
  k_with "execs cons" => ((k_here; (try k_gentoks); (with_reducible refine wpAny_execs_cons ?_); (try dsimp only); (try k_fold)))
  k_with "k_room" => (first | k_extra "room9" | ktr_room)
  k_with "and9" => (((repeat (with_reducible rename (_ ∧ _) => l8; first | exact l8.1 | exact Ne.symm l8.1 | exact Nat.ne_of_lt l8.1 | exact Nat.ne_of_gt l8.1 | exact Nat.ne_of_gt (Nat.lt_trans l8.1 (by assumption)) | exact Nat.ne_of_lt (Nat.lt_trans l8.1 (by assumption)) | (replace l8 := l8.2; first | exact l8 | exact Ne.symm l8 | exact Nat.ne_of_lt l8 | exact Nat.ne_of_gt l8 | skip))); done))
  k_with "k_ne" => ((refine neN ?_; (try dsimp only); first | assumption | exact Ne.symm (by assumption) | exact Nat.ne_of_lt (by assumption) | exact Nat.ne_of_gt (by assumption) | k_extra "and9" | omega))
  k_with "k_all" => (exact AllNe.ne (by assumption))
  k_with "call ref" => ((k_here; (with_reducible show wpAny _ _ (call (Value.ref 210) _ _) _ _ _); k_dflt (refine' draw_P ?k1 ?k2 ?k3 ?k4 ?k5 ?kK ?kU ?kp ?kC ?kc ?kn ?k6 ?k7 ?k8 ?kd ?_; (case kK => first | exact rfl | assumption); (case k1 => k_asm); (case k2 => k_asm); (case k3 => k_asm); (case k4 => k_asm); (case k5 => k_asm); (case kU => k_updF); (case kp => assumption); (case kC => k_mem); (case kc => assumption); (case kn => k_ne); (case k6 => first | k_extra "room9" | omega); (case k7 => first | exact of_decide_eq_true rfl | omega); (case k8 => first | exact of_decide_eq_true rfl | omega); (case kd => k_room); k_whole); intro _ _ _ _ _ _ N9 _ _ _; (try dsimp only at N9); (try dsimp only)))
  k_with "sep9" => (((repeat (rename ((_ : Nat) < _ ∧ _) => l8; obtain ⟨_, l7⟩ := l8)); (repeat (rename (@Ne Nat _ _ ∧ _) => l8; obtain ⟨_, l7⟩ := l8)); (simp only [Sep, NeL, and_true]); (repeat' apply And.intro); (all_goals first | assumption | k_ne | exact AllNe.of_lt (by assumption) | exact trivial)))
  k_with "names9" => ((repeat' (first | exact names_nil | (refine names_cons (by with_unfolding_all rfl) ?_))))
  k_with "sub9" => ((intro _ hq; repeat (first | exact hq | exact List.mem_append.mpr (.inl hq) | refine List.Mem.tail _ ?_)))
  k_with "pyIter ref" => ((k_here; (with_reducible show wpAny _ _ (pyIter (Value.ref _)) (fun it s₂ => LoopAtV _ _ _ _ _ _ _ _ _ it s₂) _ _); refine stop_ ?_))
  k_with "call builtin:len" => ((k_here; (with_reducible show wpAny _ _ (call (Value.builtin "len") [Value.ref _]) _ _ _); k_dflt (refine' lenL_K ?k1 ?k2 ?k3 ?k4 ?_; (case k1 => k_asm); (case k2 => k_mem); (case k3 => assumption); (case k4 => omega); k_whole); intro _ _; (try dsimp only)))
  k_with "exec For" => ((k_here; (rename Fr _ _ _ _ => lF'); (with_unfolding_all refine' For_turns (hE := by assumption) lF' ?_); k_whole))
  k_with "exec For Name BinOp cons nil" => ((k_here; (rename Fr _ _ _ _ => lF'); (with_unfolding_all refine' For_turns (hE := by assumption) lF' ?_); k_whole))
  k_with "setItem ref int" => ((k_here; (with_reducible show wpAny _ _ (setItem (Value.ref _) (Value.int _ _) (Value.int _ _)) _ _ _); k_dflt (refine' setI ?F ?N ?U ?d ?z ?_; (case F => k_asm); (case N => k_asm); (case U => k_updF); (case d => assumption); (case z => omega); k_whole); intro _ _ _ N' _; (try dsimp only at N'); (try k_sweep)))
  k_with "eval Dict nil nil" => ((k_here; k_dflt (refine' newI ?k1 ?k2 (TopRead.nolimit (by k_asm)) ?_; (case k1 => k_asm); (case k2 => k_asm); k_whole); intro _ _ _ _ _ l1 _ _; (try k_lt l1); (try k_sweep)))
  k_with "binaryOp Add ref ref" => ((k_here; k_dflt (refine' listAddK ?k1 ?k2 ?k3 ?k4 ?k5 ?_; (case k1 => k_asm); (case k2 => k_asm); (case k3 => k_mem); (case k4 => k_mem); (case k5 => (rw [sizeLine_eq]; omega)); k_whole); intro _ _ _ _ l9; (try k_lt l9); (try dsimp only)))
  k_with "pyIter ref" => ((k_here; (with_reducible show wpAny _ _ (pyIter (Value.ref _)) (fun it s₂ => TurnsAt _ _ _ _ _ _ _ _ _ it s₂) _ _); refine stop_ ?_))
  trivial
theorem putI_pos {k v : Int} {l : List (Int × Int)} (hv : 1 ≤ v) (h : ∀ q ∈ l, 1 ≤ q.2) : ∀ q ∈ putI k v l, 1 ≤ q.2 := by
  intro q hq
  unfold putI at hq
  split at hq
  · obtain ⟨p, hp, rfl⟩ := List.mem_map.mp hq
    split
    · exact hv
    · exact h p hp
  · rcases List.mem_append.mp hq with hq | hq
    · exact h q hq
    · rw [List.mem_singleton.mp hq]; exact hv
structure EJ (prog : Program) (w : World) (R K OT CO PP P C CC : Addr) (vP os cs : List Value) (nP no nc : Nat) (oC oc : Obj) (tl : List (Addr × Obj)) (b : Bool) (k i : Nat) (m : Str → Option Value) (nw : List (Addr × Obj)) (oK oP : Obj) (kl : List (Int × Int)) : Prop where
  led : nw = (R, listOf (os ++ cs).toArray 0) :: (K, oK) :: (OT, listOf os.toArray no) :: (CO, listOf cs.toArray nc) :: (PP, listOf (List.toArray vP) nP) :: (P, oP) :: (C, oC) :: (CC, oc) :: tl
  pool : PoolOk oP C (k + 2 * i)
  dct : IsI prog w oK kl
  len : kl.length ≤ i
  pos : ∀ q ∈ kl, 1 ≤ q.2
  names : Names m ((Str.ofString "known", .ref K) :: names6 OT CO b PP P)
/-- the same, what it speaks of hidden -/
inductive EJE (prog : Program) (w : World) (R K OT CO PP P C CC : Addr) (vP os cs : List Value) (nP no nc : Nat) (oC oc : Obj) (tl : List (Addr × Obj)) (b : Bool) (k i : Nat) (m : Str → Option Value) (nw : List (Addr × Obj)) : Prop
  | mk (oK oP : Obj) (kl : List (Int × Int)) (j : EJ prog w R K OT CO PP P C CC vP os cs nP no nc oC oc tl b k i m nw oK oP kl) : EJE prog w R K OT CO PP P C CC vP os cs nP no nc oC oc tl b k i m nw
set_option maxRecDepth 100000 in
set_option maxHeartbeats 8000000 in
theorem partE {OT CO PP P C : Addr} {oP oC : Obj} {vP os cs : List Value} {nP no nc k : Nat} {zs : List (Int × Int)} {tl : List (Addr × Obj)} {b : Bool} (B : Below A₀ base outer h₀) (F : Fr h₀ L s.heap m) (X : (Mine.hd.heap_39 w.params).In h₀)
    (N : News h₀ L s.heap ((OT, listOf os.toArray no) :: (CO, listOf cs.toArray nc) :: (PP, listOf (List.toArray vP) nP) :: (P, oP) :: (C, oC) :: (CC, oc) :: tl)) (S : Sep tl [OT, CO, PP, P, C, CC])
    (T : Top p loose mean mg mb h₀) (ios : IntsAre os (zs.map (·.2))) (ics : IntsAre cs (zs.map (·.1))) (len2 : zs.length ≤ 10) (pool : PoolOk oP C k) (hk : k ≤ 100) (cells : CellsOk oC)
    (nm : Names m (names6 OT CO b PP P)) (hdp : dp + 20 < recursionLimit) (hE : PassesOwn (model prog w) (lawTop dp un gd L CC fa ccd outer) (lawEnv L CC fa ccd) E)
    (done : ∀ m' h' tk' K oK oP' kl, Fr h₀ L h' m' → News h₀ L h' ((K, oK) :: (OT, listOf os.toArray no) :: (CO, listOf cs.toArray nc) :: (PP, listOf (List.toArray vP) nP) :: (P, oP') :: (C, oC) :: (CC, oc) :: tl) → Sep tl [K, OT, CO, PP, P, C, CC] →
      IsI prog w oK kl → (K == sysModules) = false → kl.length ≤ 20 → (∀ q ∈ kl, 1 ≤ q.2) → PoolOk oP' C (k + 40) → Names m' ((Str.ofString "known", .ref K) :: names6 OT CO b PP P) → Q .next { s with heap := h', toks := tk' }) :
    wpAny (model prog w) (lawTop dp un gd L CC fa ccd outer) (execs (lawPart 9 2) (lawEnv L CC fa ccd)) Q E s := by
  dsimp only [lawPart, lawRec, recOf, List.drop, List.take]
  have S0 := S
  refine sepE S ?_
  dsimp only [SepK, NeK]
  intros
  have hos : os.length = zs.length := by rw [ios.length, List.length_map]
  have hcs : cs.length = zs.length := by rw [ics.length, List.length_map]
  replace F := fr_over _ F nm
  k_steps
  rename (Fr h₀ L _ _) => FR
  rename (News h₀ L _ _) => NR
  rename (IsI _ _ _ _) => dI
  rename (_ = false) => lo
  rename_i K hK oK hA NA R hR
  have ioc := IntsAre.append ios ics
  have SK : Sep tl [K, OT, CO, PP, P, C, CC] := sepNew (fr := [(OT, oC), (CO, oC), (PP, oC), (P, oC), (C, oC), (CC, oC)]) l1 S0
  have SR : Sep tl [R, K, OT, CO, PP, P, C, CC] := sepNew (fr := [(K, oC), (OT, oC), (CO, oC), (PP, oC), (P, oC), (C, oC), (CC, oC)]) l9 SK
  show wpAny _ _ (pyIter _) _ _ _
  refine' loopL (fun i m nw => EJE prog w R K OT CO PP P C CC vP os cs nP no nc oC oc tl b k i m nw) rfl FR NR (.head _) ?j0 ?jk ?step ?done
  case j0 => exact ⟨_, _, _, rfl, pool, dI, Nat.le_refl _, (fun _ h => nomatch h), by k_extra "names9"⟩
  case jk =>
    rintro i m nw ⟨oK, oP, kl, j⟩
    rw [j.led]
    exact .head _
  case step =>
    clear FR NR lF' NA dI l1 l9 S0 nm
    rintro I oI i v m9 nw h9 tk9 hv ⟨oK, oP, kl, j⟩ hI F9 N9 hcl
    obtain ⟨led, pool', dct, len, pos, names⟩ := j
    subst led
    have hi : i < zs.length + zs.length := by
      have := (List.getElem?_eq_some_iff.mp hv).1
      rw [List.length_append] at this; omega
    obtain ⟨c, t, hc, rfl⟩ := ints_get ioc hv
    replace F9 := fr_over _ F9 names
    have hI0 := hI
    simp only [AllNe] at hI
    refine sepE SR ?_
    dsimp only [SepK, NeK]
    intros
    k_steps
    · rename (Fr h₀ L _ _) => FE
      rename (News h₀ L _ _) => NE
      rename (PoolOk _ _ _) => PE
      rename (IsI _ _ _ _) => dE
      show UnrEndW _ _ _ _ _ _
      exact turnEnd FE NE (fun q hq => hq) hI0 ⟨_, _, _, rfl, PE.mono (by omega), dE, Nat.le_trans (putI_length _ _ _) (Nat.succ_le_succ len), putI_pos (by omega) pos, by k_extra "names9"⟩
    · rename (Fr h₀ L _ _) => FE
      rename (News h₀ L _ _) => NE
      rename (PoolOk _ _ _) => PE
      show UnrEndW _ _ _ _ _ _
      exact turnEnd FE NE (fun q hq => hq) hI0 ⟨_, _, _, rfl, PE.mono (by omega), dct, by omega, pos, by k_extra "names9"⟩
  case done =>
    rintro m9 nw h9 tk9 ⟨oK', oP', kl, j⟩ F9 N9
    obtain ⟨led, pool', dct, len, pos, names⟩ := j
    subst led
    rw [List.length_append] at pool' len
    k_steps
    exact done _ _ _ K oK' oP' kl F9 (fun q hq => N9 q (.tail _ hq)) SK dct lo (by omega) pos (pool'.mono (by omega)) names
end
end Mine
namespace Mine
section
variable {prog : Program} {w : World} {p : Program} {loose : List Str} {mean : ExcName → Option Value} {mg mb : Str → Option Value}
  {dp un : Nat} {gd : Option (List Code)} {ccd : Value} {outer : List Env} {A₀ : Around} {base h₀ : Heap} {L CC fa : Addr} {oc : Obj} {m : Str → Option Value} {news : List (Addr × Obj)} {s : Shared} {Q : Flow → Shared → Prop} {E : Value → Shared → Prop}
theorem say_LF : True := by
  k_with_none
  k_with "room9" => (first | exact roomL 0 (by assumption) rfl | exact roomL 1 (by assumption) rfl | exact roomL 2 (by assumption) rfl | exact roomL 3 (by assumption) rfl | exact roomL 4 (by assumption) rfl | exact roomL 5 (by assumption) rfl | exact roomL 6 (by assumption) rfl | exact roomL 7 (by assumption) rfl | exact roomL 8 (by assumption) rfl | exact roomL 9 (by assumption) rfl | exact roomL 10 (by assumption) rfl | exact roomL 11 (by assumption) rfl | exact roomL 12 (by assumption) rfl | exact roomL 13 (by assumption) rfl | exact roomE 0 (by assumption) rfl | exact roomE 1 (by assumption) rfl | exact roomE 2 (by assumption) rfl | exact roomE 3 (by assumption) rfl | exact roomE 4 (by assumption) rfl)
  k_with "k_room" => (first | k_extra "room9" | ktr_room)
  k_with "and9" => (((repeat (with_reducible rename (_ ∧ _) => l8; first | exact l8.1 | exact Ne.symm l8.1 | exact Nat.ne_of_lt l8.1 | exact Nat.ne_of_gt l8.1 | exact Nat.ne_of_gt (Nat.lt_trans l8.1 (by assumption)) | exact Nat.ne_of_lt (Nat.lt_trans l8.1 (by assumption)) | (replace l8 := l8.2; first | exact l8 | exact Ne.symm l8 | exact Nat.ne_of_lt l8 | exact Nat.ne_of_gt l8 | skip))); done))
  k_with "k_ne" => ((refine neN ?_; (try dsimp only); first | assumption | exact Ne.symm (by assumption) | exact Nat.ne_of_lt (by assumption) | exact Nat.ne_of_gt (by assumption) | k_extra "and9" | omega))
  k_with "k_all" => (exact AllNe.ne (by assumption))
  k_with "call ref" => ((k_here; (with_reducible show wpAny _ _ (call (Value.ref 210) _ _) _ _ _); k_dflt (refine' draw_P ?k1 ?k2 ?k3 ?k4 ?k5 ?kK ?kU ?kp ?kC ?kc ?kn ?k6 ?k7 ?k8 ?kd ?_; (case kK => first | exact rfl | assumption); (case k1 => k_asm); (case k2 => k_asm); (case k3 => k_asm); (case k4 => k_asm); (case k5 => k_asm); (case kU => k_updF); (case kp => assumption); (case kC => k_mem); (case kc => assumption); (case kn => k_ne); (case k6 => first | k_extra "room9" | omega); (case k7 => first | exact of_decide_eq_true rfl | omega); (case k8 => first | exact of_decide_eq_true rfl | omega); (case kd => k_room); k_whole); intro _ _ _ _ _ _ N9 _ _ _; (try dsimp only at N9); (try dsimp only)))
  k_with "sep9" => (((repeat (rename ((_ : Nat) < _ ∧ _) => l8; obtain ⟨_, l7⟩ := l8)); (repeat (rename (@Ne Nat _ _ ∧ _) => l8; obtain ⟨_, l7⟩ := l8)); (simp only [Sep, NeL, and_true]); (repeat' apply And.intro); (all_goals first | assumption | k_ne | exact AllNe.of_lt (by assumption) | exact trivial)))
  k_with "names9" => ((repeat' (first | exact names_nil | (refine names_cons (by with_unfolding_all rfl) ?_))))
  k_with "sub9" => ((intro _ hq; repeat (first | exact hq | exact List.mem_append.mpr (.inl hq) | refine List.Mem.tail _ ?_)))
  k_with "pyIter ref" => ((k_here; (with_reducible show wpAny _ _ (pyIter (Value.ref _)) (fun it s₂ => LoopAtV _ _ _ _ _ _ _ _ _ it s₂) _ _); refine stop_ ?_))
  k_with "call builtin:len" => ((k_here; (with_reducible show wpAny _ _ (call (Value.builtin "len") [Value.ref _]) _ _ _); k_dflt (refine' lenL_K ?k1 ?k2 ?k3 ?k4 ?_; (case k1 => k_asm); (case k2 => k_mem); (case k3 => assumption); (case k4 => omega); k_whole); intro _ _; (try dsimp only)))
  trivial
theorem mask_bound : ∀ n : Nat, 0 ≤ ([0, 8, 5] : List Int).getD n 0 ∧ ([0, 8, 5] : List Int).getD n 0 ≤ 8
  | 0 => by decide
  | 1 => by decide
  | 2 => by decide
  | _ + 3 => by simp
set_option maxRecDepth 100000 in
set_option maxHeartbeats 8000000 in
theorem partF {K OT CO PP P C : Addr} {oK oP oC : Obj} {vP os cs : List Value} {nP no nc k : Nat} {tl : List (Addr × Obj)} {b : Bool} (B : Below A₀ base outer h₀) (F : Fr h₀ L s.heap m) (X : (Mine.hd.heap_39 w.params).In h₀)
    (N : News h₀ L s.heap ((K, oK) :: (OT, listOf os.toArray no) :: (CO, listOf cs.toArray nc) :: (PP, listOf (List.toArray vP) nP) :: (P, oP) :: (C, oC) :: (CC, oc) :: tl)) (S : Sep tl [K, OT, CO, PP, P, C, CC])
    (T : Top p loose mean mg mb h₀) (pool : PoolOk oP C k) (hk : k ≤ 200) (cells : CellsOk oC)
    (nm : Names m ((Str.ofString "known", .ref K) :: names6 OT CO b PP P)) (hdp : dp + 20 < recursionLimit)
    (done : ∀ m' h' tk' IS oP' (mk : Int) t, Fr h₀ L h' m' → News h₀ L h' ((IS, listOf #[] 0) :: (K, oK) :: (OT, listOf os.toArray no) :: (CO, listOf cs.toArray nc) :: (PP, listOf (List.toArray vP) nP) :: (P, oP') :: (C, oC) :: (CC, oc) :: tl) → Sep tl [IS, K, OT, CO, PP, P, C, CC] →
      0 ≤ mk → mk ≤ 8 → PoolOk oP' C (k + 1) → Names m' ((Str.ofString "infos", .ref IS) :: (Str.ofString "mask", .int mk t) :: (Str.ofString "known", .ref K) :: names6 OT CO b PP P) → Q .next { s with heap := h', toks := tk' }) :
    Box (wpAny (model prog w) (lawTop dp un gd L CC fa ccd outer) (execs (lawPart 11 2) (lawEnv L CC fa ccd)) Q E s) := by
  refine ⟨?_⟩
  dsimp only [lawPart, lawRec, recOf, List.drop, List.take]
  refine sepE S ?_
  dsimp only [SepK, NeK]
  intros
  have nmS : Names m [(Str.ofString "pool", .ref P)] := names_sub nm (by refine subC (by k_mem) (fun _ h => nomatch h))
  replace F := fr_over _ F nmS
  k_steps
  rename (Fr h₀ L _ _) => FE
  rename (News h₀ L _ _) => NE
  rename (PoolOk _ _ (k + 1)) => PE
  refine' done _ _ _ _ _ _ _ FE (fun q hq => NE q (by rcases List.mem_cons.mp hq with rfl | hq; exact .head _; exact .tail _ (.tail _ hq))) ?sp (mask_bound _).1 (mask_bound _).2 PE ?nm
  case nm => exact names_cons (if_pos rfl) (names_cons (by with_unfolding_all rfl) (names_keepB (fun y hy => if_neg hy) (names_over (x := Str.ofString "mask") nmS nm (by with_unfolding_all rfl)) (by with_unfolding_all rfl)))
  case sp => k_extra "sep9"
end
end Mine
namespace Mine
section
variable {prog : Program} {w : World} {p : Program} {loose : List Str} {mean : ExcName → Option Value} {mg mb : Str → Option Value}
  {dp un : Nat} {gd : Option (List Code)} {ccd : Value} {outer : List Env} {A₀ : Around} {base h₀ : Heap} {L CC fa : Addr} {oc : Obj} {m : Str → Option Value} {news : List (Addr × Obj)} {s : Shared} {Q : Flow → Shared → Prop} {E : Value → Shared → Prop}
theorem say_LG : True := by
  k_with_none
  k_with "room9" => (first | exact roomL 0 (by assumption) rfl | exact roomL 1 (by assumption) rfl | exact roomL 2 (by assumption) rfl | exact roomL 3 (by assumption) rfl | exact roomL 4 (by assumption) rfl | exact roomL 5 (by assumption) rfl | exact roomL 6 (by assumption) rfl | exact roomL 7 (by assumption) rfl | exact roomL 8 (by assumption) rfl | exact roomL 9 (by assumption) rfl | exact roomL 10 (by assumption) rfl | exact roomL 11 (by assumption) rfl | exact roomL 12 (by assumption) rfl | exact roomL 13 (by assumption) rfl | exact roomE 0 (by assumption) rfl | exact roomE 1 (by assumption) rfl | exact roomE 2 (by assumption) rfl | exact roomE 3 (by assumption) rfl | exact roomE 4 (by assumption) rfl)
  k_with "k_room" => (first | k_extra "room9" | ktr_room)
  k_with "and9" => (((repeat (with_reducible rename (_ ∧ _) => l8; first | exact l8.1 | exact Ne.symm l8.1 | exact Nat.ne_of_lt l8.1 | exact Nat.ne_of_gt l8.1 | exact Nat.ne_of_gt (Nat.lt_trans l8.1 (by assumption)) | exact Nat.ne_of_lt (Nat.lt_trans l8.1 (by assumption)) | (replace l8 := l8.2; first | exact l8 | exact Ne.symm l8 | exact Nat.ne_of_lt l8 | exact Nat.ne_of_gt l8 | skip))); done))
  k_with "k_ne" => ((refine neN ?_; (try dsimp only); first | assumption | exact Ne.symm (by assumption) | exact Nat.ne_of_lt (by assumption) | exact Nat.ne_of_gt (by assumption) | k_extra "and9" | omega))
  k_with "k_all" => (exact AllNe.ne (by assumption))
  k_with "call ref" => ((k_here; (with_reducible show wpAny _ _ (call (Value.ref 210) _ _) _ _ _); k_dflt (refine' draw_P ?k1 ?k2 ?k3 ?k4 ?k5 ?kK ?kU ?kp ?kC ?kc ?kn ?k6 ?k7 ?k8 ?kd ?_; (case kK => first | exact rfl | assumption); (case k1 => k_asm); (case k2 => k_asm); (case k3 => k_asm); (case k4 => k_asm); (case k5 => k_asm); (case kU => k_updF); (case kp => assumption); (case kC => k_mem); (case kc => assumption); (case kn => k_ne); (case k6 => first | k_extra "room9" | omega); (case k7 => first | exact of_decide_eq_true rfl | omega); (case k8 => first | exact of_decide_eq_true rfl | omega); (case kd => k_room); k_whole); intro _ _ _ _ _ _ N9 _ _ _; (try dsimp only at N9); (try dsimp only)))
  k_with "sep9" => (((repeat (rename ((_ : Nat) < _ ∧ _) => l8; obtain ⟨_, l7⟩ := l8)); (repeat (rename (@Ne Nat _ _ ∧ _) => l8; obtain ⟨_, l7⟩ := l8)); (simp only [Sep, NeL, and_true]); (repeat' apply And.intro); (all_goals first | assumption | k_ne | exact AllNe.of_lt (by assumption) | exact trivial)))
  k_with "names9" => ((repeat' (first | exact names_nil | (refine names_cons (by with_unfolding_all rfl) ?_))))
  k_with "sub9" => ((intro _ hq; repeat (first | exact hq | exact List.mem_append.mpr (.inl hq) | refine List.Mem.tail _ ?_)))
  k_with "pyIter ref" => ((k_here; (with_reducible show wpAny _ _ (pyIter (Value.ref _)) (fun it s₂ => LoopAtV _ _ _ _ _ _ _ _ _ it s₂) _ _); refine stop_ ?_))
  k_with "call builtin:len" => ((k_here; (with_reducible show wpAny _ _ (call (Value.builtin "len") [Value.ref _]) _ _ _); k_dflt (refine' lenL_K ?k1 ?k2 ?k3 ?k4 ?_; (case k1 => k_asm); (case k2 => k_mem); (case k3 => assumption); (case k4 => omega); k_whole); intro _ _; (try dsimp only)))
  k_with "subscriptTail" => ((k_here; (with_reducible show wpAny _ _ (subscriptTail _ _ (Value.ref _) (Value.int _ _)) _ _ _); k_dflt (refine' itemInts_K ?k1 ?k2 ?k3 ?k5 ?k6 ?k7 ?_ ?k8; (case k1 => k_asm); (case k2 => k_mem); (case k3 => assumption); (case k5 => omega); (case k6 => (rw [List.length_map]; omega)); (case k7 => (rw [List.length_map]; omega)); (case k8 => with_unfolding_all rfl); k_whole); intro _ _ _; (try dsimp only)))
  trivial
structure GJ (w : World) (IS K OT CO PP P C CC : Addr) (oK oC oc : Obj) (vP os cs : List Value) (nP no nc k : Nat) (mk : Int) (tm : Tok) (zs : List (Int × Int)) (tl : List (Addr × Obj)) (b : Bool) (i : Nat) (m : Str → Option Value) (nw : List (Addr × Obj)) (iv : List Value) (ni : Nat) (oP : Obj) (rs : List Rec) (ms : List Int) : Prop where
  led : nw = (IS, listOf iv.toArray ni) :: (K, oK) :: (OT, listOf os.toArray no) :: (CO, listOf cs.toArray nc) :: (PP, listOf (List.toArray vP) nP) :: (P, oP) :: (C, oC) :: (CC, oc) :: (rled rs ++ tl)
  pool : PoolOk oP C (k + i)
  ivs : iv = rs.map fun r => Value.ref r.I
  recs : RecsOk w rs (zs.map (·.1)) ms
  len : rs.length = i
  lem : ms.length = i
  sep : Sep (rled rs ++ tl) [IS, K, OT, CO, PP, P, C, CC]
  apart : Apart rs tl
  names : Names m ((Str.ofString "infos", .ref IS) :: (Str.ofString "mask", .int mk tm) :: (Str.ofString "known", .ref K) :: names6 OT CO b PP P)
/-- the same, what it speaks of hidden -/
inductive GJE (w : World) (IS K OT CO PP P C CC : Addr) (oK oC oc : Obj) (vP os cs : List Value) (nP no nc k : Nat) (mk : Int) (tm : Tok) (zs : List (Int × Int)) (tl : List (Addr × Obj)) (b : Bool) (i : Nat) (m : Str → Option Value) (nw : List (Addr × Obj)) : Prop
  | mk (iv : List Value) (ni : Nat) (oP : Obj) (rs : List Rec) (ms : List Int) (j : GJ w IS K OT CO PP P C CC oK oC oc vP os cs nP no nc k mk tm zs tl b i m nw iv ni oP rs ms) : GJE w IS K OT CO PP P C CC oK oC oc vP os cs nP no nc k mk tm zs tl b i m nw
theorem closeG {front front0 tl own : List (Addr × Obj)} {rs : List Rec} {x dx : Addr} {o : Obj} {J : (Str → Option Value) → List (Addr × Obj) → Prop} {m' : Str → Option Value} {s₁ : Shared} {h' : Heap} {tk : Nat}
    (F : Fr h₀ L h' m') (N : News h₀ L h' ((x, instObj 101 dx) :: (dx, o) :: (front ++ (rled rs ++ tl ++ own)))) (hf : front.map (·.1) = front0.map (·.1)) (off : OwnOff own ((front0 ++ (rled rs ++ tl)).map (·.1)))
    (hl : ∀ q ∈ own, @LT.lt Nat _ q.1 dx) (hx : @LT.lt Nat _ dx x) (j : J m' (front ++ (rled (rs ++ [⟨x, dx, o⟩]) ++ tl))) : InvEndG h₀ L J own s₁ { s₁ with heap := h', toks := tk } := by
  refine turnEndG F N (fun q hq => ?_) (fun q hq => .tail _ (.tail _ (app_r q (app_r q hq)))) (fun q hq d hd => ?_) j
  · rw [rled_append] at hq
    rcases List.mem_append.mp hq with hq | hq
    · exact .tail _ (.tail _ (app_l q hq))
    rcases List.mem_append.mp hq with hq | hq
    · rcases List.mem_append.mp hq with hq | hq
      · exact .tail _ (.tail _ (app_r q (app_l q (app_l q hq))))
      · rcases List.mem_cons.mp hq with rfl | hq
        · exact .head _
        · rw [List.mem_singleton.mp hq]; exact .tail _ (.head _)
    · exact .tail _ (.tail _ (app_r q (app_l q (app_r q hq))))
  · rw [List.map_append, List.map_append] at hd
    rw [List.map_append, List.map_append] at off
    rcases List.mem_append.mp hd with hd | hd
    · exact off q hq d (List.mem_append.mpr (.inl (hf ▸ hd)))
    rcases List.mem_append.mp hd with hd | hd
    · rw [rled_append, List.map_append] at hd
      rcases List.mem_append.mp hd with hd | hd
      · exact off q hq d (List.mem_append.mpr (.inr (List.mem_append.mpr (.inl hd))))
      · rcases List.mem_cons.mp hd with rfl | hd
        · exact Nat.ne_of_lt (Nat.lt_trans (hl q hq) hx)
        · rw [List.mem_singleton.mp hd]; exact Nat.ne_of_lt (hl q hq)
    · exact off q hq d (List.mem_append.mpr (.inr (List.mem_append.mpr (.inr hd))))
theorem permG {α : Type} {a b c d e f g h : α} {r : List α} : ∀ q ∈ a :: d :: f :: g :: b :: c :: e :: h :: r, q ∈ a :: b :: c :: d :: e :: f :: g :: h :: r := by
  repeat (refine subC (by k_mem) ?_)
  exact fun q hq => .tail _ (.tail _ (.tail _ (.tail _ (.tail _ (.tail _ (.tail _ (.tail _ hq)))))))
theorem permH {α : Type} {a b c d e f g h : α} {r : List α} : ∀ q ∈ a :: b :: c :: d :: e :: f :: g :: h :: r, q ∈ a :: d :: f :: g :: b :: c :: e :: h :: r := by
  repeat (refine subC (by k_mem) ?_)
  exact fun q hq => .tail _ (.tail _ (.tail _ (.tail _ (.tail _ (.tail _ (.tail _ (.tail _ hq)))))))
set_option maxRecDepth 100000 in
set_option maxHeartbeats 8000000 in
theorem partG {IS K OT CO PP P C : Addr} {oK oP oC : Obj} {vP os cs : List Value} {nP no nc k : Nat} {mk : Int} {tm : Tok} {zs : List (Int × Int)} {tl : List (Addr × Obj)} {b : Bool} (B : Below A₀ base outer h₀) (F : Fr h₀ L s.heap m) (X : (Mine.hd.heap_39 w.params).In h₀)
    (N : News h₀ L s.heap ((IS, listOf #[] 0) :: (K, oK) :: (OT, listOf os.toArray no) :: (CO, listOf cs.toArray nc) :: (PP, listOf (List.toArray vP) nP) :: (P, oP) :: (C, oC) :: (CC, oc) :: tl)) (S : Sep tl [IS, K, OT, CO, PP, P, C, CC])
    (T : Top p loose mean mg mb h₀) (ics : IntsAre cs (zs.map (·.1))) (len2 : zs.length ≤ 10) (pool : PoolOk oP C k) (hk : k ≤ 300) (cells : CellsOk oC)
    (nm : Names m ((Str.ofString "infos", .ref IS) :: (Str.ofString "mask", .int mk tm) :: (Str.ofString "known", .ref K) :: names6 OT CO b PP P)) (hdp : dp + 20 < recursionLimit) (hE : PassesOwn (model prog w) (lawTop dp un gd L CC fa ccd outer) (lawEnv L CC fa ccd) E)
    (done : ∀ m' nw iv ni oP' rs ms h' tk', Fr h₀ L h' m' → News h₀ L h' nw → GJ w IS K OT CO PP P C CC oK oC oc vP os cs nP no nc k mk tm zs tl b zs.length m' nw iv ni oP' rs ms → Q .next { s with heap := h', toks := tk' }) :
    wpAny (model prog w) (lawTop dp un gd L CC fa ccd outer) (execs (lawPart 13 1) (lawEnv L CC fa ccd)) Q E s := by
  dsimp only [lawPart, lawRec, recOf, List.drop, List.take]
  have S0 := S
  refine sepE S ?_
  dsimp only [SepK, NeK]
  intros
  have hcs : cs.length = zs.length := by rw [ics.length, List.length_map]
  replace F := fr_over _ F nm
  walk1
  (rename Fr _ _ _ _ => lF'); (with_unfolding_all refine' For_invVF (hE := hE) lF' ?k1 ?k2 ?_; (case k1 => exact rfl); (case k2 => exact rfl); k_whole)
  k_steps
  rename (IsRange _ _ _ _ _ _ _ _) => hr
  rename (Fr h₀ L _ _) => FR
  rename (News h₀ L _ _) => NR
  show wpAny _ _ (pyIter _) _ _ _
  refine loopR (n := zs.length) (fun i m nw => GJE w IS K OT CO PP P C CC oK oC oc vP os cs nP no nc k mk tm zs tl b i m nw) (by rfl) hr (small_one (by omega) (by omega) (by omega) (by omega)) (by rw [rangeSize_nat]; simp) FR NR ?j0 ?turn ?done
  case j0 => exact ⟨[], 0, _, [], [], rfl, pool, rfl, (fun j r h => by cases h), rfl, rfl, S0, ⟨List.nodup_nil, fun p hp => nomatch hp⟩, by k_extra "names9"⟩
  case turn =>
    clear FR NR hr
    rintro i t m1 nx h8 tk8 own hi ⟨iv, ni, oP', rs, ms, rfl, pool', ivs, recs, len, lem, sep, apart, names⟩ off F8 N8
    subst len
    have hiv : iv.length ≤ 10 := by rw [ivs, List.length_map]; omega
    have S1 := Sep.own off (by simp) sep
    show wpAny _ _ (execs (loopBody 13) _) _ _ _
    refine sepE S1 ?_
    dsimp only [SepK, NeK]
    intro a1 a2 a3 a4 a5 a6 a7 a8 b1 b2 b3 b4 b5 b6 b7 c1 c2 c3 c4 c5 c6 d1 d2 d3 d4 d5 e1 e2 e3 e4 f1 f2 f3 g1 g2 k1
    refine stepG (R := (K, oK) :: (OT, listOf os.toArray no) :: (PP, listOf (List.toArray vP) nP) :: (CC, oc) :: (rled rs ++ tl ++ own)) (k := k + rs.length) (i := rs.length) (t := t) B F8 X (fun q hq => N8 q (permG q hq)) T a3 a5 a6 ⟨Ne.symm a1, Ne.symm a2, Ne.symm a4, Ne.symm a7, a8⟩ ?e5 ?e6 ?e7 ics (by rw [List.length_map]; exact hi) (by rw [List.length_map]; exact len2) hiv pool' (by omega) cells hdp ?nm ?_
    case nm => exact names_cons (if_pos rfl) (names_cons ((if_neg (by decide)).trans (names _ (.head _))) (names_cons ((if_neg (by decide)).trans (names _ (.tail _ (.tail _ (.tail _ (.tail _ (.head _))))))) (names_cons ((if_neg (by decide)).trans (names _ (.tail _ (.tail _ (.tail _ (.tail _ (.tail _ (.tail _ (.tail _ (.head _)))))))))) names_nil)))
    case e5 => assumption
    case e6 => assumption
    case e7 => exact ⟨by k_ne, by k_ne, by k_ne, by k_ne, by assumption⟩
    intro x dx o md oP2 m2 h2 tk2 F2 N2 l2 lx2 PE ii mm
    have hl2 : AllLt dx ((IS, listOf iv.toArray ni) :: (K, oK) :: (OT, listOf os.toArray no) :: (CO, listOf cs.toArray nc) :: (PP, listOf (List.toArray vP) nP) :: (P, oP') :: (C, oC) :: (CC, oc) :: (rled rs ++ tl ++ own)) := allLt_of fun q hq => allLt_ne l2 q (permH q hq)
    clear l2
    rw [List.push_toArray] at N2
    show InvPostG _ _ _ _ _ _ .next _
    show InvEndG _ _ _ _ _ _
    refine closeG (front := (IS, listOf (iv ++ [Value.ref x]).toArray (ni + 1)) :: (K, oK) :: (OT, listOf os.toArray no) :: (CO, listOf cs.toArray nc) :: (PP, listOf (List.toArray vP) nP) :: (P, oP2) :: (C, oC) :: (CC, oc) :: []) F2 (fun q hq => N2 q (subC (.head _) (subC (.tail _ (.head _)) (fun q hq => .tail _ (.tail _ (permH q hq)))) q hq)) rfl off (fun q hq => allLt_ne hl2 q ?own) lx2
      ⟨iv ++ [Value.ref x], ni + 1, oP2, rs ++ [⟨x, dx, o⟩], ms ++ [md], rfl, PE, ?iv, recs.add lem ii, ?len, ?lem, sep.add lx2 ?sp, apart.add lx2 ?ap, names_keepB mm (names_keepB (fun y hy => if_neg hy) names (by with_unfolding_all rfl)) (by with_unfolding_all rfl)⟩
    case own => exact .tail _ (.tail _ (.tail _ (.tail _ (.tail _ (.tail _ (.tail _ (.tail _ (app_r q hq))))))))
    case iv => rw [ivs, List.map_append]; rfl
    case len => rw [List.length_append]; rfl
    case lem => rw [List.length_append, lem]; rfl
    case sp =>
      intro d hd
      obtain ⟨p, hp, rfl⟩ : ∃ p ∈ ((IS, listOf iv.toArray ni) :: (K, oK) :: (OT, listOf os.toArray no) :: (CO, listOf cs.toArray nc) :: (PP, listOf (List.toArray vP) nP) :: (P, oP') :: (C, oC) :: (CC, oc) :: []), p.1 = d := List.mem_map.mp hd
      exact allLt_ne hl2 p (app_l (r' := rled rs ++ tl ++ own) p hp)
    case ap => exact hl2.2.2.2.2.2.2.2.2 |> fun h => allLt_of fun p hp => allLt_ne h p (app_l p hp)
  case done =>
    rintro m1 nx h8 tk8 ⟨iv, ni, oP', rs, ms, j⟩ F8 N8
    k_steps
    exact done _ _ _ _ _ _ _ _ _ F8 N8 j
end
end Mine
namespace Mine
section
variable {prog : Program} {w : World} {p : Program} {loose : List Str} {mean : ExcName → Option Value} {mg mb : Str → Option Value}
  {dp un : Nat} {gd : Option (List Code)} {ccd : Value} {outer : List Env} {A₀ : Around} {base h₀ : Heap} {L CC fa : Addr} {oc : Obj} {m : Str → Option Value} {news : List (Addr × Obj)} {s : Shared} {Q : Flow → Shared → Prop} {E : Value → Shared → Prop}
theorem say_LH : True := by
  k_with_none
  k_with "room9" => (first | exact roomL 0 (by assumption) rfl | exact roomL 1 (by assumption) rfl | exact roomL 2 (by assumption) rfl | exact roomL 3 (by assumption) rfl | exact roomL 4 (by assumption) rfl | exact roomL 5 (by assumption) rfl | exact roomL 6 (by assumption) rfl | exact roomL 7 (by assumption) rfl | exact roomL 8 (by assumption) rfl | exact roomL 9 (by assumption) rfl | exact roomL 10 (by assumption) rfl | exact roomL 11 (by assumption) rfl | exact roomL 12 (by assumption) rfl | exact roomL 13 (by assumption) rfl | exact roomE 0 (by assumption) rfl | exact roomE 1 (by assumption) rfl | exact roomE 2 (by assumption) rfl | exact roomE 3 (by assumption) rfl | exact roomE 4 (by assumption) rfl)
  k_with "k_room" => (first | k_extra "room9" | ktr_room)
  k_with "and9" => (((repeat (with_reducible rename (_ ∧ _) => l8; first | exact l8.1 | exact Ne.symm l8.1 | exact Nat.ne_of_lt l8.1 | exact Nat.ne_of_gt l8.1 | exact Nat.ne_of_gt (Nat.lt_trans l8.1 (by assumption)) | exact Nat.ne_of_lt (Nat.lt_trans l8.1 (by assumption)) | (replace l8 := l8.2; first | exact l8 | exact Ne.symm l8 | exact Nat.ne_of_lt l8 | exact Nat.ne_of_gt l8 | skip))); done))
  k_with "k_ne" => ((refine neN ?_; (try dsimp only); first | assumption | exact Ne.symm (by assumption) | exact Nat.ne_of_lt (by assumption) | exact Nat.ne_of_gt (by assumption) | k_extra "and9" | omega))
  k_with "k_all" => (exact AllNe.ne (by assumption))
  k_with "call ref" => ((k_here; (with_reducible show wpAny _ _ (call (Value.ref 210) _ _) _ _ _); k_dflt (refine' draw_P ?k1 ?k2 ?k3 ?k4 ?k5 ?kK ?kU ?kp ?kC ?kc ?kn ?k6 ?k7 ?k8 ?kd ?_; (case kK => first | exact rfl | assumption); (case k1 => k_asm); (case k2 => k_asm); (case k3 => k_asm); (case k4 => k_asm); (case k5 => k_asm); (case kU => k_updF); (case kp => assumption); (case kC => k_mem); (case kc => assumption); (case kn => k_ne); (case k6 => first | k_extra "room9" | omega); (case k7 => first | exact of_decide_eq_true rfl | omega); (case k8 => first | exact of_decide_eq_true rfl | omega); (case kd => k_room); k_whole); intro _ _ _ _ _ _ N9 _ _ _; (try dsimp only at N9); (try dsimp only)))
  k_with "sep9" => (((repeat (rename ((_ : Nat) < _ ∧ _) => l8; obtain ⟨_, l7⟩ := l8)); (repeat (rename (@Ne Nat _ _ ∧ _) => l8; obtain ⟨_, l7⟩ := l8)); (simp only [Sep, NeL, and_true]); (repeat' apply And.intro); (all_goals first | assumption | k_ne | exact AllNe.of_lt (by assumption) | exact off1_allNe (by assumption) | exact trivial)))
  k_with "names9" => ((repeat' (first | exact names_nil | (refine names_cons (by with_unfolding_all rfl) ?_))))
  k_with "sub9" => ((intro _ hq; repeat (first | exact hq | exact List.mem_append.mpr (.inl hq) | refine List.Mem.tail _ ?_)))
  k_with "pyIter ref" => ((k_here; (with_reducible show wpAny _ _ (pyIter (Value.ref _)) (fun it s₂ => LoopAtV _ _ _ _ _ _ _ _ _ it s₂) _ _); refine stop_ ?_))
  k_with "call builtin:len" => ((k_here; (with_reducible show wpAny _ _ (call (Value.builtin "len") [Value.ref _]) _ _ _); k_dflt (refine' lenL_K ?k1 ?k2 ?k3 ?k4 ?_; (case k1 => k_asm); (case k2 => k_mem); (case k3 => assumption); (case k4 => omega); k_whole); intro _ _; (try dsimp only)))
  k_with "exec Assign cons ListComp" => ((k_here; k_dflt (refine Mine.AssignComp_stop (F₀ := by k_asm) rfl (by with_unfolding_all rfl) (by with_unfolding_all rfl) (by decide) (by rfl) (by decide) (by rfl) (by with_unfolding_all rfl) (by with_unfolding_all rfl) ?_)))
  trivial
set_option maxRecDepth 100000 in
set_option maxHeartbeats 8000000 in
theorem partH {IS K OT CO PP P C : Addr} {oK oP oC : Obj} {vP os cs iv : List Value} {nP no nc k ni : Nat} {mk : Int} {tm : Tok} {zs : List (Int × Int)} {tl : List (Addr × Obj)} {b : Bool} {rs : List Rec} {ms : List Int} (B : Below A₀ base outer h₀) (F : Fr h₀ L s.heap m) (X : (Mine.hd.heap_39 w.params).In h₀)
    (N : News h₀ L s.heap ((IS, listOf iv.toArray ni) :: (K, oK) :: (OT, listOf os.toArray no) :: (CO, listOf cs.toArray nc) :: (PP, listOf (List.toArray vP) nP) :: (P, oP) :: (C, oC) :: (CC, oc) :: (rled rs ++ tl)))
    (T : Top p loose mean mg mb h₀) (ivs : iv = rs.map fun r => Value.ref r.I) (recs : RecsOk w rs (zs.map (·.1)) ms) (len : rs.length = zs.length) (lem : ms.length = zs.length) (len2 : zs.length ≤ 10) (S : Sep (rled rs ++ tl) [IS, K, OT, CO, PP, P, C, CC])
    (nm : Names m ((Str.ofString "infos", .ref IS) :: (Str.ofString "mask", .int mk tm) :: (Str.ofString "known", .ref K) :: names6 OT CO b PP P)) (hdp : dp + 20 < recursionLimit)
    (done : ∀ m' h' tk' HD hv, Fr h₀ L h' m' → News h₀ L h' ((HD, LCg.lst hv) :: (IS, listOf iv.toArray ni) :: (K, oK) :: (OT, listOf os.toArray no) :: (CO, listOf cs.toArray nc) :: (PP, listOf (List.toArray vP) nP) :: (P, oP) :: (C, oC) :: (CC, oc) :: (rled rs ++ tl)) →
      Sep (rled rs ++ tl) [HD, IS, K, OT, CO, PP, P, C, CC] → IntsAre hv ms → Names m' ((Str.ofString "held", .ref HD) :: (Str.ofString "infos", .ref IS) :: (Str.ofString "mask", .int mk tm) :: (Str.ofString "known", .ref K) :: names6 OT CO b PP P) → Q .next { s with heap := h', toks := tk' }) :
    wpAny (model prog w) (lawTop dp un gd L CC fa ccd outer) (execs (lawPart 14 1) (lawEnv L CC fa ccd)) Q E s := by
  dsimp only [lawPart, lawRec, recOf, List.drop, List.take]
  refine sepE S ?_
  dsimp only [SepK, NeK]
  intros
  have nmS : Names m [(Str.ofString "infos", .ref IS)] := names_sub nm (by refine subC (by k_mem) (fun _ h => nomatch h))
  replace F := fr_over _ F nmS
  have hiv : iv.toArray.size = zs.length := by rw [List.size_toArray, ivs, List.length_map]; exact len
  k_steps
  show LCg.CompSrc _ _ _ _ _ _ _ _ _ _ _ _ _ _
  rename (Fr h₀ L _ _) => FR
  rename (News h₀ L _ _) => NR
  refine LCg.CompSrc.ledger rfl FR NR (.head _) (by rw [hiv, sizeLine_eq]; omega) fun g1 => ?_
  refine compJ (fun i ys nw => nw = (IS, listOf iv.toArray ni) :: (K, oK) :: (OT, listOf os.toArray no) :: (CO, listOf cs.toArray nc) :: (PP, listOf (List.toArray vP) nP) :: (P, oP) :: (C, oC) :: (CC, oc) :: (rled rs ++ tl) ∧ IntsAre ys (ms.take i)) ?_ ?_ _ 0 [] _ (Nat.zero_add _) ⟨rfl, .nil⟩
  · rintro i ys nw v I oI C9 oC9 D9 m₂ h8 tk8 E8 hi ⟨rfl, iy⟩ hP hC hx F8 N8 o8 ne8
    have hv : iv[i]? = some v := by simpa using hP
    rw [ivs, List.getElem?_map] at hv
    obtain ⟨r, hr, rfl⟩ := Option.map_eq_some_iff.mp hv
    have hq := rled_mem hr
    have hinf := recs i r hr
    obtain ⟨rI, rD, ro⟩ := r
    simp only at hq hinf
    have N7 := news_front (l := [(rI, instObj 101 rD), (rD, ro)]) N8 (fun q hq' => by
      rcases List.mem_cons.mp hq' with rfl | hq'
      · exact .tail _ (.tail _ (.tail _ (.tail _ (.tail _ (.tail _ (.tail _ (.tail _ (.tail _ (.tail _ (.tail _ (List.mem_append.mpr (.inl hq.1))))))))))))
      · rw [List.mem_singleton.mp hq']
        exact .tail _ (.tail _ (.tail _ (.tail _ (.tail _ (.tail _ (.tail _ (.tail _ (.tail _ (.tail _ (.tail _ (List.mem_append.mpr (.inl hq.2)))))))))))))
    simp only [List.cons_append, List.nil_append] at N7
    cases hinf
    k_steps
    show LCg.CompEnd _ _ _ _ _ _ _ _ _ _ _ _ _ _
    refine compEnd _ F8 N8 (fun q hq => hq) o8 (.inr ⟨_, .head _, rfl, _, rfl⟩) ⟨rfl, ?_⟩
    rw [take_snoc (show i < ms.length by rw [lem, ← len]; exact (List.getElem?_eq_some_iff.mp hr).1)]
    exact ints_snoc iy _ _
  · rintro ys nw ⟨rfl, iy⟩
    rw [hiv, ← lem, List.take_length] at iy
    k_steps
    rename (Fr h₀ _ _ _) => FE
    rename (News h₀ _ _ _) => NE
    refine' done _ _ _ _ _ FE NE ?sp iy ?nm
    case nm => exact names_cons (if_pos rfl) (names_over nmS nm (by with_unfolding_all rfl))
    case sp => k_extra "sep9"
end
end Mine
namespace Mine
section
variable {prog : Program} {w : World} {p : Program} {loose : List Str} {mean : ExcName → Option Value} {mg mb : Str → Option Value}
  {dp un : Nat} {gd : Option (List Code)} {ccd : Value} {outer : List Env} {A₀ : Around} {base h₀ : Heap} {L CC fa : Addr} {oc : Obj} {m : Str → Option Value} {news : List (Addr × Obj)} {s : Shared} {Q : Flow → Shared → Prop} {E : Value → Shared → Prop}
theorem say_LI : True := by
  k_with_none
  k_with "room9" => (first | exact roomL 0 (by assumption) rfl | exact roomL 1 (by assumption) rfl | exact roomL 2 (by assumption) rfl | exact roomL 3 (by assumption) rfl | exact roomL 4 (by assumption) rfl | exact roomL 5 (by assumption) rfl | exact roomL 6 (by assumption) rfl | exact roomL 7 (by assumption) rfl | exact roomL 8 (by assumption) rfl | exact roomL 9 (by assumption) rfl | exact roomL 10 (by assumption) rfl | exact roomL 11 (by assumption) rfl | exact roomL 12 (by assumption) rfl | exact roomL 13 (by assumption) rfl | exact roomE 0 (by assumption) rfl | exact roomE 1 (by assumption) rfl | exact roomE 2 (by assumption) rfl | exact roomE 3 (by assumption) rfl | exact roomE 4 (by assumption) rfl)
  k_with "k_room" => (first | k_extra "room9" | ktr_room)
  k_with "and9" => (((repeat (with_reducible rename (_ ∧ _) => l8; first | exact l8.1 | exact Ne.symm l8.1 | exact Nat.ne_of_lt l8.1 | exact Nat.ne_of_gt l8.1 | exact Nat.ne_of_gt (Nat.lt_trans l8.1 (by assumption)) | exact Nat.ne_of_lt (Nat.lt_trans l8.1 (by assumption)) | (replace l8 := l8.2; first | exact l8 | exact Ne.symm l8 | exact Nat.ne_of_lt l8 | exact Nat.ne_of_gt l8 | skip))); done))
  k_with "k_ne" => ((refine neN ?_; (try dsimp only); first | assumption | exact Ne.symm (by assumption) | exact Nat.ne_of_lt (by assumption) | exact Nat.ne_of_gt (by assumption) | k_extra "and9" | omega))
  k_with "k_all" => (exact AllNe.ne (by assumption))
  k_with "call ref" => ((k_here; (with_reducible show wpAny _ _ (call (Value.ref 210) _ _) _ _ _); k_dflt (refine' draw_P ?k1 ?k2 ?k3 ?k4 ?k5 ?kK ?kU ?kp ?kC ?kc ?kn ?k6 ?k7 ?k8 ?kd ?_; (case kK => first | exact rfl | assumption); (case k1 => k_asm); (case k2 => k_asm); (case k3 => k_asm); (case k4 => k_asm); (case k5 => k_asm); (case kU => k_updF); (case kp => assumption); (case kC => k_mem); (case kc => assumption); (case kn => k_ne); (case k6 => first | k_extra "room9" | omega); (case k7 => first | exact of_decide_eq_true rfl | omega); (case k8 => first | exact of_decide_eq_true rfl | omega); (case kd => k_room); k_whole); intro _ _ _ _ _ _ N9 _ _ _; (try dsimp only at N9); (try dsimp only)))
  k_with "sep9" => (((repeat (rename ((_ : Nat) < _ ∧ _) => l8; obtain ⟨_, l7⟩ := l8)); (repeat (rename (@Ne Nat _ _ ∧ _) => l8; obtain ⟨_, l7⟩ := l8)); (simp only [Sep, NeL, and_true]); (repeat' apply And.intro); (all_goals first | assumption | k_ne | exact AllNe.of_lt (by assumption) | exact off1_allNe (by assumption) | exact AllNe.of_lt2 (by assumption) (by assumption) | exact trivial)))
  k_with "names9" => ((repeat' (first | exact names_nil | (refine names_cons (by with_unfolding_all rfl) ?_))))
  k_with "sub9" => ((intro _ hq; repeat (first | exact hq | exact List.mem_append.mpr (.inl hq) | refine List.Mem.tail _ ?_)))
  k_with "pyIter ref" => ((k_here; (with_reducible show wpAny _ _ (pyIter (Value.ref _)) (fun it s₂ => LoopAtV _ _ _ _ _ _ _ _ _ it s₂) _ _); refine stop_ ?_))
  k_with "call builtin:len" => ((k_here; (with_reducible show wpAny _ _ (call (Value.builtin "len") [Value.ref _]) _ _ _); k_dflt (refine' lenL_K ?k1 ?k2 ?k3 ?k4 ?_; (case k1 => k_asm); (case k2 => k_mem); (case k3 => assumption); (case k4 => omega); k_whole); intro _ _; (try dsimp only)))
  trivial
section
variable {Q : Value → Shared → Prop}
set_option maxRecDepth 100000 in
set_option maxHeartbeats 8000000 in
/-- a buffer made, whatever else stands -/
theorem buf_K {IS : Addr} {b : Bool} (B : Below A₀ base outer h₀) (F : Fr h₀ L s.heap m) (X : (Mine.hd.heap_39 w.params).In h₀) (N : News h₀ L s.heap news)
    (T : Top p loose mean mg mb h₀) (hdp : dp + 20 < recursionLimit)
    (hret : ∀ BU DB oB h' tk', Fr h₀ L h' m → News h₀ L h' ((BU, instObj 147 DB) :: (DB, oB) :: news) → AllLt DB news → @LT.lt Nat _ DB BU → IsBuf w IS b oB → Q (.ref BU) { s with heap := h', toks := tk' }) :
    wpAny (model prog w) (lawTop dp un gd L CC fa ccd outer) (call (.ref 147) [.ref IS, .bool b]) Q E s := by
  refine call_cls F X N (by k_is) (by k_is) (by k_is) fun x dx h' F' N' l1 l2 => ?_
  have al : AllLt dx news := allLt_of l1
  have an : AllNe dx news := AllNe.of_lt al
  k_enter
  k_steps
  rename (Fr h₀ L _ _) => FE
  rename (News h₀ L _ _) => NE
  exact hret _ _ _ _ _ FE NE al l2 (by constructor)
end
theorem say_LIb : True := by
  k_with "call ref" => ((k_here; (with_reducible show wpAny _ _ (call (Value.ref 147) _ _) _ _ _); k_dflt (refine' buf_K ?k1 ?k2 ?k3 ?k4 ?k5 ?kd ?_; (case k1 => k_asm); (case k2 => k_asm); (case k3 => k_asm); (case k4 => k_asm); (case k5 => k_asm); (case kd => assumption); k_whole); intro BU DB oB _ _ FE NE lDB lBU hB))
  trivial
set_option maxRecDepth 100000 in
set_option maxHeartbeats 8000000 in
theorem partI {HD IS K OT CO PP P C : Addr} {oK oP oC : Obj} {vP os cs iv hv : List Value} {nP no nc ni : Nat} {mk : Int} {tm : Tok} {tl : List (Addr × Obj)} {b : Bool} (B : Below A₀ base outer h₀) (F : Fr h₀ L s.heap m) (X : (Mine.hd.heap_39 w.params).In h₀)
    (N : News h₀ L s.heap ((HD, LCg.lst hv) :: (IS, listOf iv.toArray ni) :: (K, oK) :: (OT, listOf os.toArray no) :: (CO, listOf cs.toArray nc) :: (PP, listOf (List.toArray vP) nP) :: (P, oP) :: (C, oC) :: (CC, oc) :: tl))
    (T : Top p loose mean mg mb h₀) (S : Sep tl [HD, IS, K, OT, CO, PP, P, C, CC])
    (nm : Names m ((Str.ofString "held", .ref HD) :: (Str.ofString "infos", .ref IS) :: (Str.ofString "mask", .int mk tm) :: (Str.ofString "known", .ref K) :: names6 OT CO b PP P)) (hdp : dp + 20 < recursionLimit)
    (done : ∀ m' h' tk' BU DB oB, Fr h₀ L h' m' → News h₀ L h' ((BU, instObj 147 DB) :: (DB, oB) :: (HD, LCg.lst hv) :: (IS, listOf iv.toArray ni) :: (K, oK) :: (OT, listOf os.toArray no) :: (CO, listOf cs.toArray nc) :: (PP, listOf (List.toArray vP) nP) :: (P, oP) :: (C, oC) :: (CC, oc) :: tl) →
      Sep tl [BU, DB, HD, IS, K, OT, CO, PP, P, C, CC] → IsBuf w IS b oB → Names m' (names10 BU HD IS mk tm K OT CO b PP P) → Q .next { s with heap := h', toks := tk' }) :
    wpAny (model prog w) (lawTop dp un gd L CC fa ccd outer) (execs (lawPart 15 1) (lawEnv L CC fa ccd)) Q E s := by
  dsimp only [lawPart, lawRec, recOf, List.drop, List.take]
  have nmS : Names m [(Str.ofString "infos", .ref IS), (Str.ofString "is_backward", .bool b)] := names_sub nm (by refine subC (by k_mem) (subC (by k_mem) (fun _ h => nomatch h)))
  replace F := fr_over _ F nmS
  k_steps
  rename (Fr h₀ L _ _) => FZ
  rename (News h₀ L _ _) => NZ
  refine' done _ _ _ BU DB oB FZ NZ ?sp hB ?nm
  case nm => exact names_cons (if_pos rfl) (names_over nmS nm (by with_unfolding_all rfl))
  case sp => exact sepNew2 (fr := [(HD, oC), (IS, oC), (K, oC), (OT, oC), (CO, oC), (PP, oC), (P, oC), (C, oC), (CC, oC)]) lDB lBU S
end
end Mine
namespace Mine
section
variable {prog : Program} {w : World} {p : Program} {loose : List Str} {mean : ExcName → Option Value} {mg mb : Str → Option Value}
  {dp un : Nat} {gd : Option (List Code)} {ccd : Value} {outer : List Env} {A₀ : Around} {base h₀ : Heap} {L CC : Addr} {oc : Obj} {m : Str → Option Value} {news : List (Addr × Obj)} {s : Shared} {Q : Flow → Shared → Prop} {E : Value → Shared → Prop}
theorem say_LTold : True := by
  k_with_none
  k_with "room9" => (first | exact roomL 0 (by assumption) rfl | exact roomL 1 (by assumption) rfl | exact roomL 2 (by assumption) rfl | exact roomL 3 (by assumption) rfl | exact roomL 4 (by assumption) rfl | exact roomL 5 (by assumption) rfl | exact roomL 6 (by assumption) rfl | exact roomL 7 (by assumption) rfl | exact roomL 8 (by assumption) rfl | exact roomL 9 (by assumption) rfl | exact roomL 10 (by assumption) rfl | exact roomL 11 (by assumption) rfl | exact roomL 12 (by assumption) rfl | exact roomL 13 (by assumption) rfl | exact roomE 0 (by assumption) rfl | exact roomE 1 (by assumption) rfl | exact roomE 2 (by assumption) rfl | exact roomE 3 (by assumption) rfl | exact roomE 4 (by assumption) rfl)
  k_with "k_room" => (first | k_extra "room9" | ktr_room)
  k_with "and9" => (((repeat (with_reducible rename (_ ∧ _) => l8; first | exact l8.1 | exact Ne.symm l8.1 | exact Nat.ne_of_lt l8.1 | exact Nat.ne_of_gt l8.1 | exact Nat.ne_of_gt (Nat.lt_trans l8.1 (by assumption)) | exact Nat.ne_of_lt (Nat.lt_trans l8.1 (by assumption)) | (replace l8 := l8.2; first | exact l8 | exact Ne.symm l8 | exact Nat.ne_of_lt l8 | exact Nat.ne_of_gt l8 | skip))); done))
  k_with "k_ne" => ((refine neN ?_; (try dsimp only); first | assumption | exact Ne.symm (by assumption) | exact Nat.ne_of_lt (by assumption) | exact Nat.ne_of_gt (by assumption) | k_extra "and9" | omega))
  k_with "k_all" => (exact AllNe.ne (by assumption))
  k_with "call ref" => ((k_here; (with_reducible show wpAny _ _ (call (Value.ref 210) _ _) _ _ _); k_dflt (refine' draw_P ?k1 ?k2 ?k3 ?k4 ?k5 ?kK ?kU ?kp ?kC ?kc ?kn ?k6 ?k7 ?k8 ?kd ?_; (case kK => first | exact rfl | assumption); (case k1 => k_asm); (case k2 => k_asm); (case k3 => k_asm); (case k4 => k_asm); (case k5 => k_asm); (case kU => k_updF); (case kp => assumption); (case kC => k_mem); (case kc => assumption); (case kn => k_ne); (case k6 => first | k_extra "room9" | omega); (case k7 => first | exact of_decide_eq_true rfl | omega); (case k8 => first | exact of_decide_eq_true rfl | omega); (case kd => k_room); k_whole); intro _ _ _ _ _ _ N9 _ _ _; (try dsimp only at N9); (try dsimp only)))
  k_with "sep9" => (((repeat (rename ((_ : Nat) < _ ∧ _) => l8; obtain ⟨_, l7⟩ := l8)); (repeat (rename (@Ne Nat _ _ ∧ _) => l8; obtain ⟨_, l7⟩ := l8)); (simp only [Sep, NeL, and_true]); (repeat' apply And.intro); (all_goals first | assumption | k_ne | exact AllNe.of_lt (by assumption) | exact off1_allNe (by assumption) | exact AllNe.of_lt2 (by assumption) (by assumption) | exact trivial)))
  k_with "names9" => ((repeat' (first | exact names_nil | (refine names_cons (by with_unfolding_all rfl) ?_))))
  k_with "sub9" => ((intro _ hq; repeat (first | exact hq | exact List.mem_append.mpr (.inl hq) | refine List.Mem.tail _ ?_)))
  k_with "pyIter ref" => ((k_here; (with_reducible show wpAny _ _ (pyIter (Value.ref _)) (fun it s₂ => LoopAtV _ _ _ _ _ _ _ _ _ it s₂) _ _); refine stop_ ?_))
  k_with "call builtin:len" => ((k_here; (with_reducible show wpAny _ _ (call (Value.builtin "len") [Value.ref _]) _ _ _); k_dflt (refine' lenL_K ?k1 ?k2 ?k3 ?k4 ?_; (case k1 => k_asm); (case k2 => k_mem); (case k3 => assumption); (case k4 => omega); k_whole); intro _ _; (try dsimp only)))
  k_with "eval ListComp" => ((k_here; k_dflt (refine Mine.ListComp_stop (F₀ := by k_asm) (by with_unfolding_all rfl) (by decide) (by rfl) (by decide) (by rfl) ?_)))
  trivial
noncomputable def rowD (j : Nat) : Dat := .tuple [.int (3 + (j : Int)), .int (2 * (j : Int)), .int 0, .int 0, .int 0, .int 0]
noncomputable def toldD (n : Nat) : Dat := .tuple ((List.range n).map rowD)
theorem news_gen {h₀ h : Heap} {L : Addr} {l : List (Addr × Obj)} (N : News h₀ L h l) : ∃ full, full = l ∧ News h₀ L h full := ⟨l, rfl, N⟩
theorem IsInfo.cls {w : World} {c g k mk : Int} {o : Obj} (h : IsInfo w c g k mk o) : o.cls = .type "dict" := by cases h; rfl
theorem rled_cls {w : World} {rs : List Rec} {zs ms : List Int} (h : RecsOk w rs zs ms) : ∀ q ∈ rled rs, q.2.cls ≠ .type "tuple" := by
  intro q hq
  obtain ⟨r, hr, hq⟩ := List.mem_flatMap.mp hq
  obtain ⟨j, hj⟩ := List.getElem?_of_mem hr
  rcases List.mem_cons.mp hq with rfl | hq
  · exact fun e => nomatch e
  · rw [List.mem_singleton.mp hq]
    show r.o.cls ≠ _
    rw [(h j r hj).cls]
    decide
theorem range_snoc (i : Nat) : (List.range (i + 1)).map rowD = (List.range i).map rowD ++ [rowD i] := by rw [List.range_succ, List.map_append]; rfl
section
variable {cn : Str} {cs : Scope} {a : Addr} {cl : List (Str × Addr)} {Q : Value → Shared → Prop}
set_option maxRecDepth 100000 in
set_option maxHeartbeats 8000000 in
theorem told_spec {BU DB IS : Addr} {oB : Obj} {b : Bool} {iv : List Value} {ni : Nat} {rs : List Rec} {zs ms : List Int} (B : Below A₀ base outer h₀) (F : Fr h₀ L s.heap m) (X : (Mine.hd.heap_39 w.params).In h₀)
    (N : News h₀ L s.heap ((BU, instObj 147 DB) :: (DB, oB) :: (IS, listOf iv.toArray ni) :: rled rs))
    (T : Top p loose mean mg mb h₀) (hk : cs.kind = .function) (hb : IsBuf w IS b oB) (ivs : iv = rs.map fun r => Value.ref r.I) (recs : RecsOk w rs zs ms) (len : rs.length ≤ 10) (hdp : dp + 10 < recursionLimit)
    (hret : ∀ x tl' h' tk', InElt s.heap h' → (∀ p ∈ tl', s.heap.get? p.1 = none ∧ h'.get? p.1 = some p.2) → DatIn tl' (.ref x) (toldD rs.length) → Q (.ref x) { s with heap := h', toks := tk' }) :
    wpAny (model prog w) (ktrTop dp un gd cn cs L a ccd cl outer) (call (.ref 137) [.ref BU]) Q E s := by
  refine wpAny_call ?_
  refine' code_defG ?k1 ?k2 ?k3 ?k4 ?k5 ?kA ?kF ?kK ?k6 ?k7 ?k8 ?k9 ?kB ?_ ?c2 ?c3 ?c4 ?c5
  (case kA => exact rfl); (case kF => exact rfl); (case kK => assumption)
  (case k1 => k_asm); (case k2 => k_asm); (case k3 => k_asm); (case k4 => k_asm); (case k5 => k_asm); (case k6 => k_is); (case k7 => k_is); (case k8 => k_room)
  (case k9 => exact BindsTo.of_eq rfl); (case c5 => decide); (case kB => exact locs rfl); (case c2 => exact rfl); (case c3 => exact rfl); (case c4 => exact rfl)
  intro g' L' h' FG' F' N' B' X' T' kG'
  (try dsimp only); (try k_fold)
  have hiv : iv.toArray.size = rs.length := by rw [List.size_toArray, ivs, List.length_map]
  cases hb
  k_steps
  rename (Fr g' L' _ _) => FR
  rename (News g' L' _ _) => NR
  obtain ⟨full, hfull, NF⟩ := news_gen NR
  have mIS : (IS, listOf iv.toArray ni) ∈ full := by rw [hfull]; exact .tail _ (.tail _ (.head _))
  have mR : ∀ q ∈ rled rs, q ∈ full := by rw [hfull]; exact cons_in (cons_in (cons_in fun q hq => hq))
  show LCg.CompSrc _ _ _ _ _ _ _ _ _ _ _ _ _ _
  refine LCg.CompSrc.ledger rfl FR NF mIS (by rw [hiv, sizeLine_eq]; omega) fun g1 => ?_
  refine compJ (fun i ys nw => ∃ tl2, nw = tl2 ++ full ∧ DatAll tl2 ys ((List.range i).map rowD) ∧ ∀ p ∈ tl2, AllNe p.1 full) ?_ ?_ _ 0 [] _ (Nat.zero_add _) ⟨[], rfl, .nil, fun _ h => nomatch h⟩
  · clear NR
    rintro i ys nw v I oI C9 oC9 D9 m₂ h8 tk8 E8 hi ⟨tl2, rfl, dk, hoff⟩ hP hC hx F8 N8 o8 ne8
    have hv : iv[i]? = some v := by simpa using hP
    rw [ivs, List.getElem?_map] at hv
    obtain ⟨r, hr, rfl⟩ := Option.map_eq_some_iff.mp hv
    have hq := rled_mem hr
    have hinf := recs i r hr
    obtain ⟨rI, rD, ro⟩ := r
    simp only at hq hinf
    have N7 := news_front (l := [(rI, instObj 101 rD), (rD, ro)]) N8 (fun q hq' => by
      rcases List.mem_cons.mp hq' with rfl | hq'
      · exact .tail _ (.tail _ (.tail _ (List.mem_append.mpr (.inr (mR _ hq.1)))))
      · rw [List.mem_singleton.mp hq']
        exact .tail _ (.tail _ (.tail _ (List.mem_append.mpr (.inr (mR _ hq.2))))))
    simp only [List.cons_append, List.nil_append] at N7
    cases hinf
    clear N8
    k_steps
    rename (News g' L' _ _) => NT
    rename (Fr g' L' _ _) => FT
    rename (_ ∧ _ ∧ _ ∧ _ ∧ _ ∧ AllLt _ _) => lT
    show LCg.CompEnd _ _ _ _ _ _ _ _ _ _ _ _ _ _
    refine compEnd1 [] (tl2 ++ full) FT (news_drop2 (news_drop2 NT)) lT.2.2 o8 (.inr ⟨_, .tail _ (List.mem_append.mpr (.inr mIS)), rfl, _, rfl⟩) fun o1 _ => ⟨_ :: tl2, rfl, ?_, ?_⟩
    · rw [range_snoc]
      exact (dk.mono fun q hq => .tail _ hq).append (.one (.tuple (.head _) (.cons (.int _ _) (.cons (.int _ _) (.cons (.int _ _) (.cons (.int _ _) (.cons (.int _ _) (.cons (.int _ _) .nil))))))))
    · intro p hp
      rcases List.mem_cons.mp hp with rfl | hp
      · exact o1.right.right
      · exact hoff p hp
  · rintro ys nw ⟨tl2, rfl, dk, hoff⟩
    rw [hiv] at dk
    have lys : ys.length = rs.length := by have := dk.length; rw [List.length_map, List.length_range] at this; exact this
    k_steps
    rename (Fr g' L' _ _) => FE
    rename (News g' L' _ _) => NE
    have hcls : ∀ q ∈ full, q.2.cls ≠ .type "tuple" := by
      rw [hfull]
      intro q hq
      rcases List.mem_cons.mp hq with rfl | hq
      · exact fun e => nomatch e
      rcases List.mem_cons.mp hq with rfl | hq
      · show Value.type "dict" ≠ _; decide
      rcases List.mem_cons.mp hq with rfl | hq
      · show Value.type "list" ≠ _; decide
      exact rled_cls recs q hq
    have hx := NE _ (.head _)
    refine hret _ ((_, tupObj ys 0) :: tl2) _ _ (elt_after (InElt.start _) kG' N FE NE fun q hq => ?_) (fun q hq => ?_) (.tuple (.head _) (dk.mono fun q hq => .tail _ hq))
    · rw [← hfull] at hq
      exact .tail _ (.tail _ (List.mem_append.mpr (.inr hq)))
    · rcases List.mem_cons.mp hq with rfl | hq
      · refine ⟨fresh_of kG' NE (.head _) fun hm => ?_, hx.1⟩
        rw [← hfull] at hm
        obtain ⟨q, hq, e⟩ := List.mem_map.mp hm
        have z := (NE q (.tail _ (.tail _ (List.mem_append.mpr (.inr hq))))).1
        rw [e, hx.1] at z
        exact hcls q hq (by rw [← Option.some.inj z])
      · have y := NE q (.tail _ (.tail _ (List.mem_append.mpr (.inl hq))))
        refine ⟨fresh_of (o := q.2) kG' NE (.tail _ (.tail _ (List.mem_append.mpr (.inl hq)))) fun hm => ?_, y.1⟩
        rw [← hfull] at hm
        obtain ⟨p, hp, e⟩ := List.mem_map.mp hm
        exact (hoff q hq).ne p hp e
theorem told_K {BU DB IS : Addr} {oB : Obj} {b : Bool} {iv : List Value} {ni : Nat} {rs : List Rec} {zs ms : List Int} (B : Below A₀ base outer h₀) (F : Fr h₀ L s.heap m) (X : (Mine.hd.heap_39 w.params).In h₀) (N : News h₀ L s.heap news)
    (T : Top p loose mean mg mb h₀) (hk : cs.kind = .function) (m1 : (BU, instObj 147 DB) ∈ news) (m2 : (DB, oB) ∈ news) (m3 : (IS, listOf iv.toArray ni) ∈ news) (m4 : ∀ q ∈ rled rs, q ∈ news)
    (hb : IsBuf w IS b oB) (ivs : iv = rs.map fun r => Value.ref r.I) (recs : RecsOk w rs zs ms) (len : rs.length ≤ 10) (hdp : dp + 10 < recursionLimit)
    (hret : ∀ x tl' h' tk', Fr h₀ L h' m → News h₀ L h' (tl' ++ news) → (∀ q ∈ news, AllNe q.1 tl') → DatIn tl' (.ref x) (toldD rs.length) → Q (.ref x) { s with heap := h', toks := tk' }) :
    wpAny (model prog w) (ktrTop dp un gd cn cs L a ccd cl outer) (call (.ref 137) [.ref BU]) Q E s := by
  refine told_spec (DB := DB) (ni := ni) B F X (fun q hq => N q ?_) T hk hb ivs recs len hdp fun x tl' h' tk' E1 fr d => ?_
  · rcases List.mem_cons.mp hq with rfl | hq
    · exact m1
    rcases List.mem_cons.mp hq with rfl | hq
    · exact m2
    rcases List.mem_cons.mp hq with rfl | hq
    · exact m3
    · exact m4 q hq
  · obtain ⟨F', N'⟩ := add_after F N (fun b o e _ => E1 b o e) fr
    exact hret x tl' h' tk' F' N' (fun q hq => allNe_of fun p hp e => ne_of_fresh N (fr p hp).1 q hq e.symm) d
end
end
end Mine
namespace Mine
section
variable {prog : Program} {w : World} {p : Program} {loose : List Str} {mean : ExcName → Option Value} {mg mb : Str → Option Value}
  {dp un : Nat} {gd : Option (List Code)} {ccd : Value} {outer : List Env} {A₀ : Around} {base h₀ : Heap} {L CC fa : Addr} {oc : Obj} {m : Str → Option Value} {news : List (Addr × Obj)} {s : Shared} {Q : Flow → Shared → Prop} {E : Value → Shared → Prop}
theorem say_LJ : True := by
  k_with_none
  k_with "room9" => (first | exact roomL 0 (by assumption) rfl | exact roomL 1 (by assumption) rfl | exact roomL 2 (by assumption) rfl | exact roomL 3 (by assumption) rfl | exact roomL 4 (by assumption) rfl | exact roomL 5 (by assumption) rfl | exact roomL 6 (by assumption) rfl | exact roomL 7 (by assumption) rfl | exact roomL 8 (by assumption) rfl | exact roomL 9 (by assumption) rfl | exact roomL 10 (by assumption) rfl | exact roomL 11 (by assumption) rfl | exact roomL 12 (by assumption) rfl | exact roomL 13 (by assumption) rfl | exact roomE 0 (by assumption) rfl | exact roomE 1 (by assumption) rfl | exact roomE 2 (by assumption) rfl | exact roomE 3 (by assumption) rfl | exact roomE 4 (by assumption) rfl)
  k_with "k_room" => (first | k_extra "room9" | ktr_room)
  k_with "and9" => (((repeat (with_reducible rename (_ ∧ _) => l8; first | exact l8.1 | exact Ne.symm l8.1 | exact Nat.ne_of_lt l8.1 | exact Nat.ne_of_gt l8.1 | exact Nat.ne_of_gt (Nat.lt_trans l8.1 (by assumption)) | exact Nat.ne_of_lt (Nat.lt_trans l8.1 (by assumption)) | (replace l8 := l8.2; first | exact l8 | exact Ne.symm l8 | exact Nat.ne_of_lt l8 | exact Nat.ne_of_gt l8 | skip))); done))
  k_with "k_ne" => ((refine neN ?_; (try dsimp only); first | assumption | exact Ne.symm (by assumption) | exact Nat.ne_of_lt (by assumption) | exact Nat.ne_of_gt (by assumption) | k_extra "and9" | omega))
  k_with "k_all" => (exact AllNe.ne (by assumption))
  k_with "call ref" => ((k_here; (with_reducible show wpAny _ _ (call (Value.ref 210) _ _) _ _ _); k_dflt (refine' draw_P ?k1 ?k2 ?k3 ?k4 ?k5 ?kK ?kU ?kp ?kC ?kc ?kn ?k6 ?k7 ?k8 ?kd ?_; (case kK => first | exact rfl | assumption); (case k1 => k_asm); (case k2 => k_asm); (case k3 => k_asm); (case k4 => k_asm); (case k5 => k_asm); (case kU => k_updF); (case kp => assumption); (case kC => k_mem); (case kc => assumption); (case kn => k_ne); (case k6 => first | k_extra "room9" | omega); (case k7 => first | exact of_decide_eq_true rfl | omega); (case k8 => first | exact of_decide_eq_true rfl | omega); (case kd => k_room); k_whole); intro _ _ _ _ _ _ N9 _ _ _; (try dsimp only at N9); (try dsimp only)))
  k_with "sep9" => (((repeat (rename ((_ : Nat) < _ ∧ _) => l8; obtain ⟨_, l7⟩ := l8)); (repeat (rename (@Ne Nat _ _ ∧ _) => l8; obtain ⟨_, l7⟩ := l8)); (simp only [Sep, NeL, and_true]); (repeat' apply And.intro); (all_goals first | assumption | k_ne | exact AllNe.of_lt (by assumption) | exact off1_allNe (by assumption) | exact AllNe.of_lt2 (by assumption) (by assumption) | exact trivial)))
  k_with "names9" => ((repeat' (first | exact names_nil | (refine names_cons (by with_unfolding_all rfl) ?_))))
  k_with "sub9" => ((intro _ hq; repeat (first | exact hq | exact List.mem_append.mpr (.inl hq) | refine List.Mem.tail _ ?_)))
  k_with "pyIter ref" => ((k_here; (with_reducible show wpAny _ _ (pyIter (Value.ref _)) (fun it s₂ => LoopAtV _ _ _ _ _ _ _ _ _ it s₂) _ _); refine stop_ ?_))
  k_with "call builtin:len" => ((k_here; (with_reducible show wpAny _ _ (call (Value.builtin "len") [Value.ref _]) _ _ _); k_dflt (refine' lenL_K ?k1 ?k2 ?k3 ?k4 ?_; (case k1 => k_asm); (case k2 => k_mem); (case k3 => assumption); (case k4 => omega); k_whole); intro _ _; (try dsimp only)))
  k_with "call ref" => ((k_here; refine stop_ ?_))
  trivial
theorem permJ {α : Type} {fr a u t : List α} : ∀ q ∈ fr ++ (a ++ (u ++ t)), q ∈ u ++ (fr ++ (a ++ t)) := subA (subR (subL subI)) (subA (subR (subR (subL subI))) (subA (subL subI) (subR (subR (subR subI)))))
set_option maxRecDepth 100000 in
set_option maxHeartbeats 8000000 in
theorem partJ {BU DB HD IS K OT CO PP P C : Addr} {oB oK oP oC : Obj} {vP os cs iv hv : List Value} {nP no nc ni : Nat} {mk : Int} {tm : Tok} {tl : List (Addr × Obj)} {b : Bool} {rs : List Rec} {zs ms : List Int} (B : Below A₀ base outer h₀) (F : Fr h₀ L s.heap m) (X : (Mine.hd.heap_39 w.params).In h₀)
    (N : News h₀ L s.heap ((BU, instObj 147 DB) :: (DB, oB) :: (HD, LCg.lst hv) :: (IS, listOf iv.toArray ni) :: (K, oK) :: (OT, listOf os.toArray no) :: (CO, listOf cs.toArray nc) :: (PP, listOf (List.toArray vP) nP) :: (P, oP) :: (C, oC) :: (CC, oc) :: (rled rs ++ tl)))
    (T : Top p loose mean mg mb h₀) (S : Sep (rled rs ++ tl) [BU, DB, HD, IS, K, OT, CO, PP, P, C, CC]) (hb : IsBuf w IS b oB) (ivs : iv = rs.map fun r => Value.ref r.I) (recs : RecsOk w rs zs ms) (len : rs.length ≤ 10) (ap : Apart rs tl)
    (nm : Names m (names10 BU HD IS mk tm K OT CO b PP P)) (hdp : dp + 20 < recursionLimit)
    (done : ∀ m' h' tk' BE tl2, Fr h₀ L h' m' → News h₀ L h' ((BU, instObj 147 DB) :: (DB, oB) :: (HD, LCg.lst hv) :: (IS, listOf iv.toArray ni) :: (K, oK) :: (OT, listOf os.toArray no) :: (CO, listOf cs.toArray nc) :: (PP, listOf (List.toArray vP) nP) :: (P, oP) :: (C, oC) :: (CC, oc) :: (rled rs ++ tl2)) →
      Sep (rled rs ++ tl2) [BU, DB, HD, IS, K, OT, CO, PP, P, C, CC] → Apart rs tl2 → DatIn tl2 (.ref BE) (toldD rs.length) → Names m' ((Str.ofString "before", .ref BE) :: names10 BU HD IS mk tm K OT CO b PP P) → Q .next { s with heap := h', toks := tk' }) :
    wpAny (model prog w) (lawTop dp un gd L CC fa ccd outer) (execs (lawPart 16 1) (lawEnv L CC fa ccd)) Q E s := by
  dsimp only [lawPart, lawRec, recOf, List.drop, List.take]
  have nmS : Names m [(Str.ofString "buffer", .ref BU)] := names_sub nm (by refine subC (by k_mem) (fun _ h => nomatch h))
  replace F := fr_over _ F nmS
  have hb' := hb
  cases hb
  k_steps
  rename (Fr h₀ L _ _) => FR
  rename (News h₀ L _ _) => NR
  show wpAny _ _ (call (Value.ref 137) [Value.ref _]) _ _ _
  k_dflt (refine' told_K B FR X NR T ?kK ?m1 ?m2 ?m3 ?m4 hb' ivs recs len ?kd ?_)
  (case kK => first | exact rfl | assumption); (case m1 => k_mem); (case m2 => k_mem); (case m3 => k_mem)
  (case m4 => k_extra "sub9")
  (case kd => k_room)
  intro x9 tl9 h9 tk9 F9 N9 o9 D9
  k_steps
  rename (Fr h₀ L _ _) => FE
  rename (News h₀ L _ _) => NE
  refine' done _ _ _ x9 (tl9 ++ tl) FE (fun q hq => NE q ?n1) ?s1 ⟨ap.nd, fun p hp => allNe_append (o9 p ?n2) (ap.off p hp)⟩ (D9.mono app_l) ?nm
  case nm => exact names_cons (if_pos rfl) (names_over nmS nm (by with_unfolding_all rfl))
  case n1 => exact permJ (fr := _ :: _ :: _ :: _ :: _ :: _ :: _ :: _ :: _ :: _ :: _ :: []) q hq
  case n2 =>
    repeat (refine List.Mem.tail _ ?_)
    exact List.mem_append.mpr (.inl hp)
  case s1 =>
    refine Sep.sub (tl := tl9 ++ (rled rs ++ tl)) (fun p hp => ?_) (Sep.front ?_ S)
    · simp only [List.mem_append] at hp ⊢
      grind
    · intro d hd
      simp only [List.mem_cons, List.not_mem_nil, or_false] at hd
      rcases hd with rfl | rfl | rfl | rfl | rfl | rfl | rfl | rfl | rfl | rfl | rfl <;> exact o9 (_, _) (by k_mem)
end
end Mine
namespace Mine
section
variable {prog : Program} {w : World} {p : Program} {loose : List Str} {mean : ExcName → Option Value} {mg mb : Str → Option Value}
  {dp un : Nat} {gd : Option (List Code)} {ccd : Value} {outer : List Env} {A₀ : Around} {base h₀ : Heap} {L CC fa : Addr} {oc : Obj} {m : Str → Option Value} {news : List (Addr × Obj)} {s : Shared} {Q : Flow → Shared → Prop} {E : Value → Shared → Prop}
theorem say_LK : True := by
  k_with_none
  k_with "room9" => (first | exact roomL 0 (by assumption) rfl | exact roomL 1 (by assumption) rfl | exact roomL 2 (by assumption) rfl | exact roomL 3 (by assumption) rfl | exact roomL 4 (by assumption) rfl | exact roomL 5 (by assumption) rfl | exact roomL 6 (by assumption) rfl | exact roomL 7 (by assumption) rfl | exact roomL 8 (by assumption) rfl | exact roomL 9 (by assumption) rfl | exact roomL 10 (by assumption) rfl | exact roomL 11 (by assumption) rfl | exact roomL 12 (by assumption) rfl | exact roomL 13 (by assumption) rfl | exact roomE 0 (by assumption) rfl | exact roomE 1 (by assumption) rfl | exact roomE 2 (by assumption) rfl | exact roomE 3 (by assumption) rfl | exact roomE 4 (by assumption) rfl)
  k_with "k_room" => (first | k_extra "room9" | ktr_room)
  k_with "and9" => (((repeat (with_reducible rename (_ ∧ _) => l8; first | exact l8.1 | exact Ne.symm l8.1 | exact Nat.ne_of_lt l8.1 | exact Nat.ne_of_gt l8.1 | exact Nat.ne_of_gt (Nat.lt_trans l8.1 (by assumption)) | exact Nat.ne_of_lt (Nat.lt_trans l8.1 (by assumption)) | (replace l8 := l8.2; first | exact l8 | exact Ne.symm l8 | exact Nat.ne_of_lt l8 | exact Nat.ne_of_gt l8 | skip))); done))
  k_with "k_ne" => ((refine neN ?_; (try dsimp only); first | assumption | exact Ne.symm (by assumption) | exact Nat.ne_of_lt (by assumption) | exact Nat.ne_of_gt (by assumption) | k_extra "and9" | omega))
  k_with "k_all" => (exact AllNe.ne (by assumption))
  k_with "call ref" => ((k_here; (with_reducible show wpAny _ _ (call (Value.ref 210) _ _) _ _ _); k_dflt (refine' draw_P ?k1 ?k2 ?k3 ?k4 ?k5 ?kK ?kU ?kp ?kC ?kc ?kn ?k6 ?k7 ?k8 ?kd ?_; (case kK => first | exact rfl | assumption); (case k1 => k_asm); (case k2 => k_asm); (case k3 => k_asm); (case k4 => k_asm); (case k5 => k_asm); (case kU => k_updF); (case kp => assumption); (case kC => k_mem); (case kc => assumption); (case kn => k_ne); (case k6 => first | k_extra "room9" | omega); (case k7 => first | exact of_decide_eq_true rfl | omega); (case k8 => first | exact of_decide_eq_true rfl | omega); (case kd => k_room); k_whole); intro _ _ _ _ _ _ N9 _ _ _; (try dsimp only at N9); (try dsimp only)))
  k_with "sep9" => (((repeat (rename ((_ : Nat) < _ ∧ _) => l8; obtain ⟨_, l7⟩ := l8)); (repeat (rename (@Ne Nat _ _ ∧ _) => l8; obtain ⟨_, l7⟩ := l8)); (simp only [Sep, NeL, and_true]); (repeat' apply And.intro); (all_goals first | assumption | k_ne | exact AllNe.of_lt (by assumption) | exact off1_allNe (by assumption) | exact AllNe.of_lt2 (by assumption) (by assumption) | exact trivial)))
  k_with "names9" => ((repeat' (first | exact names_nil | (refine names_cons (by with_unfolding_all rfl) ?_))))
  k_with "sub9" => ((intro _ hq; repeat (first | exact hq | exact List.mem_append.mpr (.inl hq) | refine List.Mem.tail _ ?_)))
  k_with "pyIter ref" => ((k_here; (with_reducible show wpAny _ _ (pyIter (Value.ref _)) (fun it s₂ => LoopAtV _ _ _ _ _ _ _ _ _ it s₂) _ _); refine stop_ ?_))
  k_with "call builtin:len" => ((k_here; (with_reducible show wpAny _ _ (call (Value.builtin "len") [Value.ref _]) _ _ _); k_dflt (refine' lenL_K ?k1 ?k2 ?k3 ?k4 ?_; (case k1 => k_asm); (case k2 => k_mem); (case k3 => assumption); (case k4 => omega); k_whole); intro _ _; (try dsimp only)))
  k_with "call ref" => ((k_here; (with_reducible show wpAny _ _ (call (Value.ref 70) _ _) _ _ _); refine stop_ ?_))
  k_with "eval DictComp" => ((k_here; k_dflt (refine Mine.DictComp_I (F₀ := by k_asm) (by with_unfolding_all rfl) (by decide) (by rfl) (by decide) (by rfl) ?_)))
  k_with "subscriptTail" => ((k_here; (with_reducible show wpAny _ _ (subscriptTail _ _ (Value.ref _) (Value.int _ _)) _ _ _); k_dflt (refine' tailI ?k1 ?k2 ?k3 ?k4 ?k5 ?_ ?k6; (case k1 => k_asm); (case k2 => k_mem); (case k3 => assumption); (case k4 => assumption); (case k5 => assumption); (case k6 => with_unfolding_all rfl); k_whole); intro _; (try dsimp only)))
  trivial
theorem lookup_some {l : List (Int × Int)} {j : Int} (h : j ∈ l.map (·.1)) (pos : ∀ q ∈ l, 1 ≤ q.2) : ∃ x, l.lookup j = some x ∧ 1 ≤ x := by
  rw [lookup_keys] at h
  cases e : l.lookup j with
  | none => rw [e] at h; cases h
  | some x =>
    refine ⟨x, rfl, ?_⟩
    clear h
    induction l with
    | nil => cases e
    | cons q r ih =>
      rw [lk_cons] at e
      by_cases hj : j = q.1
      · rw [if_pos hj] at e
        cases e
        exact pos q (.head _)
      · rw [if_neg hj] at e
        exact ih (fun q hq => pos q (.tail _ hq)) e
theorem perm1 {a b c d e f x1 x2 x3 x4 x5 x6 x7 x8 : Addr × Obj} {r tl : List (Addr × Obj)} : ∀ q ∈ [a, b, c, d, e, f] ++ r ++ (x1 :: x2 :: x3 :: x4 :: x5 :: x6 :: x7 :: x8 :: tl), q ∈ c :: a :: b :: d :: e :: x1 :: f :: x2 :: x3 :: x4 :: x5 :: x6 :: x7 :: x8 :: (r ++ tl) := by
  refine subA (subA ?_ ?_) ?_
  · repeat (refine subC (by k_mem) ?_)
    exact fun _ h => nomatch h
  · repeat (refine subT ?_)
    exact subL subI
  · repeat (refine subC (by k_mem) ?_)
    repeat (refine subT ?_)
    exact subR subI
theorem perm2 {a b c d e f x1 x2 x3 x4 x5 x6 x7 x8 : Addr × Obj} {r tl : List (Addr × Obj)} : ∀ q ∈ d :: e :: x1 :: f :: x2 :: x3 :: x4 :: x5 :: x6 :: x7 :: x8 :: (r ++ tl), q ∈ [a, b, c, d, e, f] ++ r ++ (x1 :: x2 :: x3 :: x4 :: x5 :: x6 :: x7 :: x8 :: tl) := by
  repeat (refine subC (by first | k_mem | exact List.mem_append.mpr (.inr (by k_mem))) ?_)
  refine subA (subL (subR subI)) (subR ?_)
  repeat (first | exact subI | refine subT ?_)
theorem news_cm {w : World} {h₀ H : Heap} {L D KD : Addr} {x y z : Addr × Obj} {o : Obj} {r : List (Addr × Obj)} (N : News h₀ L H (x :: y :: z :: (D, o) :: r)) (h : IsCM w KD o) : ∃ o, IsCM w KD o ∧ News h₀ L H (x :: y :: z :: (D, o) :: r) := ⟨o, h, N⟩
theorem range_getD {n j : Nat} {f : Nat → Int} (h : j < n) : ((List.range n).map f).getD j 0 = f j := by simp [List.getD_eq_getElem?_getD, h]
noncomputable def codeT (b : Bool) (l : List (Int × Int)) (c : Int) : Int := if b = true then newC l c else c
noncomputable def maskT (b : Bool) (l : List (Int × Int)) (mk c x : Int) : Int := if b = true then newM l mk c x else x
theorem turnC_same {l l' : List (Int × Int)} (h : ∀ j, l'.lookup j = l.lookup j) (c : Int) : turnC l' c = turnC l c := by unfold turnC; rw [h]
section
variable {Q : Value → Shared → Prop}
set_option maxRecDepth 100000 in
set_option maxHeartbeats 8000000 in
/-- a charmap made of a dict, whatever else stands -/
theorem cm_K {K : Addr} {oK : Obj} {kl : List (Int × Int)} (B : Below A₀ base outer h₀) (F : Fr h₀ L s.heap m) (X : (Mine.hd.heap_39 w.params).In h₀) (N : News h₀ L s.heap news) (mK0 : (K, oK) ∈ news)
    (T : Top p loose mean mg mb h₀) (dct : IsI prog w oK kl) (lo : (K == sysModules) = false) (hkl : kl.length ≤ 20) (pos : ∀ q ∈ kl, 1 ≤ q.2) (hdp : dp + 20 < recursionLimit)
    (hret : ∀ CM DM KD oM oD h' tk', Fr h₀ L h' m → News h₀ L h' ((KD, oD) :: (CM, instObj 186 DM) :: (DM, oM) :: news) → AllLt KD ((CM, oM) :: (DM, oM) :: news) → AllLt DM news → @LT.lt Nat _ DM CM → IsCM w KD oM → IsI prog w oD (reTab kl (kl.map (·.1))) → (KD == sysModules) = false → Q (.ref CM) { s with heap := h', toks := tk' }) :
    wpAny (model prog w) (lawTop dp un gd L CC fa ccd outer) (call (.ref 186) [.ref K]) Q E s := by
  refine call_cls F X N (by k_is) (by k_is) (by k_is) fun CM DM h1 F1 N1 l1 l2 => ?_
  have al : AllLt DM news := allLt_of l1
  have an : AllNe DM news := AllNe.of_lt al
  clear l1
  k_enter
  k_steps
  rename_i g' L' h2 tk2 FG2 F2 B2 X2 T2 l3 oc2 d2 N2
  clear F1 N1
  obtain ⟨full, hfull, N9⟩ := news_gen N2
  have mK : (K, oK) ∈ full := by rw [hfull]; exact .tail _ (.tail _ (.tail _ mK0))
  have mc : (L' + 1, oc2) ∈ full := by rw [hfull]; exact .head _
  show SrcI _ _ _ _ _ _ _ _ _ _ _ _ _ _ _ _
  refine ⟨K, oK, kl, full, rfl, rfl, F2, N9, mK, lo, dct, by omega, TopRead.nolimit (by k_asm), ?_, ?_, ?_, ?_⟩
  · intro C9 oC9 j t9 s2 m₂ E9 hj hC hx F9 N9
    obtain ⟨x9, hx9, px9⟩ := lookup_some hj pos
    refine wpAny_tests_one ?_
    have N8 := news_front (l := [(L' + 1, oc2), (K, oK)]) N9 (fun q hq' => by
      rcases List.mem_cons.mp hq' with rfl | hq'
      · exact .tail _ mc
      · rw [List.mem_singleton.mp hq']; exact .tail _ mK)
    simp only [List.cons_append, List.nil_append] at N8
    clear N9
    k_steps
    exact ⟨by simp only [bne_iff_ne, ne_eq]; omega, _, rfl⟩
  · intro C9 oC9 j t9 s2 m₂ E9 hj hC hx F9 N9
    k_steps
    exact ⟨⟨_, rfl⟩, _, rfl⟩
  · intro C9 oC9 j t9 s2 m₂ E9 hj hC hx F9 N9
    obtain ⟨x9, hx9, px9⟩ := lookup_some hj pos
    have N8 := news_front (l := [(L' + 1, oc2), (K, oK)]) N9 (fun q hq' => by
      rcases List.mem_cons.mp hq' with rfl | hq'
      · exact .tail _ mc
      · rw [List.mem_singleton.mp hq']; exact .tail _ mK)
    simp only [List.cons_append, List.nil_append] at N8
    clear N9
    k_steps
    exact ⟨⟨_, by rw [hx9]; rfl⟩, _, rfl⟩
  · intro KD oD h9 tk9 F9 N7 lt9 lo9 dI9
    rw [hfull] at N7 lt9
    clear N9 N2 hfull mK mc full
    k_lt lt9
    k_steps
    rename (Fr h₀ L _ _) => FX
    rename (News h₀ L _ _) => NX
    obtain ⟨oM, hM, NX⟩ := news_cm (w := w) (KD := KD) NX (IsCM.mk _ _ _)
    refine hret _ _ _ _ _ _ _ FX (fun q hq => NX q ((subC (.head _) (subT (subT subI))) q hq)) lt9.2 al l2 hM dI9 lo9
end
theorem say_LKb : True := by
  k_with "call ref" => ((k_here; (with_reducible show wpAny _ _ (call (Value.ref 186) _ _) _ _ _); k_dflt (refine' cm_K ?k1 ?k2 ?k3 ?k4 ?m ?k5 ?k6 ?k7 ?k8 ?k9 ?kd ?_; (case k1 => k_asm); (case k2 => k_asm); (case k3 => k_asm); (case k4 => k_asm); (case m => k_mem); (case k5 => k_asm); (case k6 => assumption); (case k7 => assumption); (case k8 => assumption); (case k9 => assumption); (case kd => assumption); k_whole); intro CM DM KD oM oD _ _ FX NX lKD lDM lCD hM dI9 lo9))
  trivial
set_option maxRecDepth 100000 in
set_option maxHeartbeats 8000000 in
theorem partK {BU DB HD IS K OT CO PP P C BE : Addr} {oB oK oP oC : Obj} {vP os cs iv hv : List Value} {nP no nc ni : Nat} {mk : Int} {tm : Tok} {tl : List (Addr × Obj)} {b : Bool} {rs : List Rec} {zs ms : List Int} {kl : List (Int × Int)} (B : Below A₀ base outer h₀) (F : Fr h₀ L s.heap m) (X : (Mine.hd.heap_39 w.params).In h₀)
    (N : News h₀ L s.heap ((BU, instObj 147 DB) :: (DB, oB) :: (HD, LCg.lst hv) :: (IS, listOf iv.toArray ni) :: (K, oK) :: (OT, listOf os.toArray no) :: (CO, listOf cs.toArray nc) :: (PP, listOf (List.toArray vP) nP) :: (P, oP) :: (C, oC) :: (CC, oc) :: (rled rs ++ tl)))
    (T : Top p loose mean mg mb h₀) (S : Sep (rled rs ++ tl) [BU, DB, HD, IS, K, OT, CO, PP, P, C, CC]) (hb : IsBuf w IS b oB) (ivs : iv = rs.map fun r => Value.ref r.I) (recs : RecsOk w rs zs ms) (len : rs.length ≤ 10) (ap : Apart rs tl)
    (dct : IsI prog w oK kl) (lo : (K == sysModules) = false) (hkl : kl.length ≤ 20) (pos : ∀ q ∈ kl, 1 ≤ q.2)
    (nm : Names m ((Str.ofString "before", .ref BE) :: names10 BU HD IS mk tm K OT CO b PP P)) (hdp : dp + 20 < recursionLimit) (hun : un + 64 < cLine)
    (done : ∀ m' h' tk' rs' zs' ms', Fr h₀ L h' m' → News h₀ L h' ((BU, instObj 147 DB) :: (DB, oB) :: (HD, LCg.lst hv) :: (IS, listOf iv.toArray ni) :: (K, oK) :: (OT, listOf os.toArray no) :: (CO, listOf cs.toArray nc) :: (PP, listOf (List.toArray vP) nP) :: (P, oP) :: (C, oC) :: (CC, oc) :: (rled rs' ++ tl)) →
      rs'.map idOf = rs.map idOf → RecsOk w rs' zs' ms' → (∀ j, j < rs.length → zs'.getD j 0 = codeT b kl (zs.getD j 0) ∧ ms'.getD j 0 = maskT b kl mk (zs.getD j 0) (ms.getD j 0)) → Names m' ((Str.ofString "before", .ref BE) :: names10 BU HD IS mk tm K OT CO b PP P) → Q .next { s with heap := h', toks := tk' }) :
    wpAny (model prog w) (lawTop dp un gd L CC fa ccd outer) (execs (lawPart 17 1) (lawEnv L CC fa ccd)) Q E s := by
  dsimp only [lawPart, lawRec, recOf, List.drop, List.take]
  have nmS : Names m [(Str.ofString "buffer", .ref BU), (Str.ofString "known", .ref K), (Str.ofString "mask", .int mk tm)] := names_sub nm (by refine subC (by k_mem) (subC (by k_mem) (subC (by k_mem) (fun _ h => nomatch h))))
  replace F := fr_over _ F nmS
  have S0 := S
  k_steps
  generalize htl : (HD, LCg.lst hv) :: (K, oK) :: (OT, listOf os.toArray no) :: (CO, listOf cs.toArray nc) :: (PP, listOf (List.toArray vP) nP) :: (P, oP) :: (C, oC) :: (CC, oc) :: tl = TL
  have hA : ∀ d : Nat, AllNe d (rled rs ++ tl) → @Ne Nat HD d → @Ne Nat K d → @Ne Nat OT d → @Ne Nat CO d → @Ne Nat PP d → @Ne Nat P d → @Ne Nat C d → @Ne Nat CC d → AllNe d (rled rs ++ TL) := fun d h h1 h2 h3 h4 h5 h6 h7 h8 => by
    rw [← htl]
    exact allNe_append h.left ⟨h1, h2, h3, h4, h5, h6, h7, h8, h.right⟩
  have hS : Sep (rled rs ++ TL) [CM, DM, KD, BU, DB, IS] :=
    ⟨⟨(Nat.ne_of_gt lCD), (Nat.ne_of_lt lKD.1), (Nat.ne_of_gt (Nat.lt_trans lDM.1 lCD)), (Nat.ne_of_gt (Nat.lt_trans lDM.2.1 lCD)), (Nat.ne_of_gt (Nat.lt_trans lDM.2.2.2.1 lCD)), trivial⟩,
    hA CM (AllNe.of_lt2 lDM.2.2.2.2.2.2.2.2.2.2.2 lCD) (Nat.ne_of_lt (Nat.lt_trans lDM.2.2.1 lCD)) (Nat.ne_of_lt (Nat.lt_trans lDM.2.2.2.2.1 lCD)) (Nat.ne_of_lt (Nat.lt_trans lDM.2.2.2.2.2.1 lCD)) (Nat.ne_of_lt (Nat.lt_trans lDM.2.2.2.2.2.2.1 lCD)) (Nat.ne_of_lt (Nat.lt_trans lDM.2.2.2.2.2.2.2.1 lCD)) (Nat.ne_of_lt (Nat.lt_trans lDM.2.2.2.2.2.2.2.2.1 lCD)) (Nat.ne_of_lt (Nat.lt_trans lDM.2.2.2.2.2.2.2.2.2.1 lCD)) (Nat.ne_of_lt (Nat.lt_trans lDM.2.2.2.2.2.2.2.2.2.2.1 lCD)),
    ⟨(Nat.ne_of_lt lKD.2.1), (Nat.ne_of_gt lDM.1), (Nat.ne_of_gt lDM.2.1), (Nat.ne_of_gt lDM.2.2.2.1), trivial⟩,
    hA DM (AllNe.of_lt lDM.2.2.2.2.2.2.2.2.2.2.2) (Nat.ne_of_lt lDM.2.2.1) (Nat.ne_of_lt lDM.2.2.2.2.1) (Nat.ne_of_lt lDM.2.2.2.2.2.1) (Nat.ne_of_lt lDM.2.2.2.2.2.2.1) (Nat.ne_of_lt lDM.2.2.2.2.2.2.2.1) (Nat.ne_of_lt lDM.2.2.2.2.2.2.2.2.1) (Nat.ne_of_lt lDM.2.2.2.2.2.2.2.2.2.1) (Nat.ne_of_lt lDM.2.2.2.2.2.2.2.2.2.2.1),
    ⟨(Nat.ne_of_gt lKD.2.2.1), (Nat.ne_of_gt lKD.2.2.2.1), (Nat.ne_of_gt lKD.2.2.2.2.2.1), trivial⟩,
    hA KD (AllNe.of_lt lKD.2.2.2.2.2.2.2.2.2.2.2.2.2) (Nat.ne_of_lt lKD.2.2.2.2.1) (Nat.ne_of_lt lKD.2.2.2.2.2.2.1) (Nat.ne_of_lt lKD.2.2.2.2.2.2.2.1) (Nat.ne_of_lt lKD.2.2.2.2.2.2.2.2.1) (Nat.ne_of_lt lKD.2.2.2.2.2.2.2.2.2.1) (Nat.ne_of_lt lKD.2.2.2.2.2.2.2.2.2.2.1) (Nat.ne_of_lt lKD.2.2.2.2.2.2.2.2.2.2.2.1) (Nat.ne_of_lt lKD.2.2.2.2.2.2.2.2.2.2.2.2.1),
    ⟨S0.1.1, S0.1.2.2.1, trivial⟩,
    hA BU (S0.2.1) (Ne.symm S0.1.2.1) (Ne.symm S0.1.2.2.2.1) (Ne.symm S0.1.2.2.2.2.1) (Ne.symm S0.1.2.2.2.2.2.1) (Ne.symm S0.1.2.2.2.2.2.2.1) (Ne.symm S0.1.2.2.2.2.2.2.2.1) (Ne.symm S0.1.2.2.2.2.2.2.2.2.1) (Ne.symm S0.1.2.2.2.2.2.2.2.2.2.1),
    ⟨S0.2.2.1.2.1, trivial⟩,
    hA DB (S0.2.2.2.1) (Ne.symm S0.2.2.1.1) (Ne.symm S0.2.2.1.2.2.1) (Ne.symm S0.2.2.1.2.2.2.1) (Ne.symm S0.2.2.1.2.2.2.2.1) (Ne.symm S0.2.2.1.2.2.2.2.2.1) (Ne.symm S0.2.2.1.2.2.2.2.2.2.1) (Ne.symm S0.2.2.1.2.2.2.2.2.2.2.1) (Ne.symm S0.2.2.1.2.2.2.2.2.2.2.2.1),
    trivial,
    hA IS (S0.2.2.2.2.2.2.2.1) S0.2.2.2.2.1.1 (Ne.symm S0.2.2.2.2.2.2.1.1) (Ne.symm S0.2.2.2.2.2.2.1.2.1) (Ne.symm S0.2.2.2.2.2.2.1.2.2.1) (Ne.symm S0.2.2.2.2.2.2.1.2.2.2.1) (Ne.symm S0.2.2.2.2.2.2.1.2.2.2.2.1) (Ne.symm S0.2.2.2.2.2.2.1.2.2.2.2.2.1) (Ne.symm S0.2.2.2.2.2.2.1.2.2.2.2.2.2.1), trivial⟩
  have hAp : Apart rs TL := ⟨ap.nd, fun p hp => by
    have z : ∀ b ∈ [BU, DB, HD, IS, K, OT, CO, PP, P, C, CC], @Ne Nat b p.1 := fun b hb => Ne.symm ((S0.ne b hb).ne p (List.mem_append.mpr (.inl hp)))
    rw [← htl]
    exact ⟨z HD (by simp), z K (by simp), z OT (by simp), z CO (by simp), z PP (by simp), z P (by simp), z C (by simp), z CC (by simp), ap.off p hp⟩⟩
  show wpAny _ _ (call (Value.ref 70) [Value.ref _, Value.ref _, Value.int _ _]) _ _ _
  refine' mrow_K (KD := KD) (oM := oM) (ni := ni) (oK := oD) (iv := iv) (rs := rs) (tl := TL) (zs := zs) (ms := ms) (l := reTab kl (kl.map (·.1))) B FX X (fun q hq => NX q ?hN) T ?kK hS hAp hM hb dI9 lo9 ivs recs len ?kd hun ?_
  case kK => first | exact rfl | assumption
  case kd => k_room
  case hN =>
    rw [← htl] at hq
    exact perm1 q hq
  intro rs' h8 tk8 F8 N8 same hT hF
  clear NX FX
  have NY : News h₀ L h8 ((BU, instObj 147 DB) :: (DB, oB) :: (HD, LCg.lst hv) :: (IS, listOf iv.toArray ni) :: (K, oK) :: (OT, listOf os.toArray no) :: (CO, listOf cs.toArray nc) :: (PP, listOf (List.toArray vP) nP) :: (P, oP) :: (C, oC) :: (CC, oc) :: (rled rs' ++ tl)) := fun q hq => N8 q (by
    rw [← htl]
    exact perm2 q hq)
  clear N8
  k_steps
  refine done _ _ _ rs' ((List.range rs.length).map fun j => codeT b kl (zs.getD j 0)) ((List.range rs.length).map fun j => maskT b kl mk (zs.getD j 0) (ms.getD j 0)) F8 NY same (fun j r hj => ?_) (fun j hj => ?_) (names_same nmS nm)
  · have hl : j < rs.length := by
      have e : rs'.length = rs.length := by have := congrArg List.length same; simpa using this
      rw [← e]
      exact (List.getElem?_eq_some_iff.mp hj).1
    rw [range_getD hl, range_getD hl]
    cases b with
    | false =>
      rw [hF rfl] at hj
      exact recs j r hj
    | true =>
      have z := (hT rfl).at' j r hj
      rw [if_pos hl, if_pos hl] at z
      have e1 := turnC_same (reTab_all kl)
      simp only [newC, newM, e1] at z
      exact z
  · rw [range_getD hj, range_getD hj]
    exact ⟨rfl, rfl⟩
end
end Mine
namespace Mine
section
variable {prog : Program} {w : World} {p : Program} {loose : List Str} {mean : ExcName → Option Value} {mg mb : Str → Option Value}
  {dp un : Nat} {gd : Option (List Code)} {ccd : Value} {outer : List Env} {A₀ : Around} {base h₀ : Heap} {L CC fa : Addr} {oc : Obj} {m : Str → Option Value} {news : List (Addr × Obj)} {s : Shared} {Q : Flow → Shared → Prop} {E : Value → Shared → Prop}
theorem say_LL : True := by
  k_with_none
  k_with "room9" => (first | exact roomL 0 (by assumption) rfl | exact roomL 1 (by assumption) rfl | exact roomL 2 (by assumption) rfl | exact roomL 3 (by assumption) rfl | exact roomL 4 (by assumption) rfl | exact roomL 5 (by assumption) rfl | exact roomL 6 (by assumption) rfl | exact roomL 7 (by assumption) rfl | exact roomL 8 (by assumption) rfl | exact roomL 9 (by assumption) rfl | exact roomL 10 (by assumption) rfl | exact roomL 11 (by assumption) rfl | exact roomL 12 (by assumption) rfl | exact roomL 13 (by assumption) rfl | exact roomE 0 (by assumption) rfl | exact roomE 1 (by assumption) rfl | exact roomE 2 (by assumption) rfl | exact roomE 3 (by assumption) rfl | exact roomE 4 (by assumption) rfl)
  k_with "execs cons" => ((k_here; (try k_gentoks); (with_reducible refine wpAny_execs_cons ?_); (try dsimp only); (try k_fold)))
  k_with "k_room" => (first | k_extra "room9" | ktr_room)
  k_with "and9" => (((repeat (with_reducible rename (_ ∧ _) => l8; first | exact l8.1 | exact Ne.symm l8.1 | exact Nat.ne_of_lt l8.1 | exact Nat.ne_of_gt l8.1 | exact Nat.ne_of_gt (Nat.lt_trans l8.1 (by assumption)) | exact Nat.ne_of_lt (Nat.lt_trans l8.1 (by assumption)) | (replace l8 := l8.2; first | exact l8 | exact Ne.symm l8 | exact Nat.ne_of_lt l8 | exact Nat.ne_of_gt l8 | skip))); done))
  k_with "k_ne" => ((refine neN ?_; (try dsimp only); first | assumption | exact Ne.symm (by assumption) | exact Nat.ne_of_lt (by assumption) | exact Nat.ne_of_gt (by assumption) | k_extra "and9" | omega))
  k_with "k_all" => (exact AllNe.ne (by assumption))
  k_with "call ref" => ((k_here; (with_reducible show wpAny _ _ (call (Value.ref 210) _ _) _ _ _); k_dflt (refine' draw_P ?k1 ?k2 ?k3 ?k4 ?k5 ?kK ?kU ?kp ?kC ?kc ?kn ?k6 ?k7 ?k8 ?kd ?_; (case kK => first | exact rfl | assumption); (case k1 => k_asm); (case k2 => k_asm); (case k3 => k_asm); (case k4 => k_asm); (case k5 => k_asm); (case kU => k_updF); (case kp => assumption); (case kC => k_mem); (case kc => assumption); (case kn => k_ne); (case k6 => first | k_extra "room9" | omega); (case k7 => first | exact of_decide_eq_true rfl | omega); (case k8 => first | exact of_decide_eq_true rfl | omega); (case kd => k_room); k_whole); intro _ _ _ _ _ _ N9 _ _ _; (try dsimp only at N9); (try dsimp only)))
  k_with "sep9" => (((repeat (rename ((_ : Nat) < _ ∧ _) => l8; obtain ⟨_, l7⟩ := l8)); (repeat (rename (@Ne Nat _ _ ∧ _) => l8; obtain ⟨_, l7⟩ := l8)); (simp only [Sep, NeL, and_true]); (repeat' apply And.intro); (all_goals first | assumption | k_ne | exact AllNe.of_lt (by assumption) | exact off1_allNe (by assumption) | exact AllNe.of_lt2 (by assumption) (by assumption) | exact trivial)))
  k_with "names9" => ((repeat' (first | exact names_nil | (refine names_cons (by with_unfolding_all rfl) ?_))))
  k_with "sub9" => ((intro _ hq; repeat (first | exact hq | exact List.mem_append.mpr (.inl hq) | refine List.Mem.tail _ ?_)))
  k_with "pyIter ref" => ((k_here; (with_reducible show wpAny _ _ (pyIter (Value.ref _)) (fun it s₂ => LoopAtV _ _ _ _ _ _ _ _ _ it s₂) _ _); refine stop_ ?_))
  k_with "call builtin:len" => ((k_here; (with_reducible show wpAny _ _ (call (Value.builtin "len") [Value.ref _]) _ _ _); k_dflt (refine' lenL_K ?k1 ?k2 ?k3 ?k4 ?_; (case k1 => k_asm); (case k2 => k_mem); (case k3 => assumption); (case k4 => omega); k_whole); intro _ _; (try dsimp only)))
  k_with "subscriptTail" => ((k_here; (with_reducible show wpAny _ _ (subscriptTail _ _ (Value.ref _) (Value.int _ _)) _ _ _); k_dflt (refine' itemInts_K ?k1 ?k2 ?k3 ?k5 ?k6 ?k7 ?_ ?k8; (case k1 => k_asm); (case k2 => k_mem); (case k3 => assumption); (case k5 => omega); (case k6 => omega); (case k7 => omega); (case k8 => with_unfolding_all rfl); k_whole); intro _ _ _; (try dsimp only)))
  k_with "compareOp In int ref" => ((k_here; k_dflt (refine' inI ?k1 ?k2 ?k3 ?k4 ?_; (case k1 => k_asm); (case k2 => k_mem); (case k3 => assumption); (case k4 => assumption); k_whole); (try dsimp only)))
  k_with "exec For" => ((k_here; (rename Fr _ _ _ _ => lF'); (with_unfolding_all refine' For_invVF (hE := by assumption) lF' ?k1 ?k2 ?_; (case k1 => exact rfl); (case k2 => exact rfl); k_whole)))
  k_with "exec For Name Call cons nil" => ((k_here; (rename Fr _ _ _ _ => lF'); (with_unfolding_all refine' For_invVF (hE := by assumption) lF' ?k1 ?k2 ?_; (case k1 => exact rfl); (case k2 => exact rfl); k_whole)))
  trivial
noncomputable def dueD (b : Bool) (kl : List (Int × Int)) (mk : Int) (zs ms : List Int) (j : Nat) : Dat := .tuple [.int (codeT b kl (zs.getD j 0)), .int (maskT b kl mk (zs.getD j 0) (ms.getD j 0))]
theorem due_snoc (b : Bool) (kl : List (Int × Int)) (mk : Int) (zs ms : List Int) (i : Nat) : (List.range (i + 1)).map (dueD b kl mk zs ms) = (List.range i).map (dueD b kl mk zs ms) ++ [dueD b kl mk zs ms i] := by rw [List.range_succ, List.map_append]; rfl
structure DJ (HD K OT CO DUE BE BU IS PP P : Addr) (oK : Obj) (hv os cs : List Value) (nh no nc : Nat) (kl : List (Int × Int)) (mk : Int) (tm : Tok) (zs ms : List Int) (TL : List (Addr × Obj)) (b : Bool) (i : Nat) (m : Str → Option Value) (nw : List (Addr × Obj)) (dv : List Value) (nd : Nat) (tlD : List (Addr × Obj)) : Prop where
  led : nw = (DUE, listOf dv.toArray nd) :: (HD, listOf hv.toArray nh) :: (K, oK) :: (OT, listOf os.toArray no) :: (CO, listOf cs.toArray nc) :: (tlD ++ TL)
  dat : DatAll tlD dv ((List.range i).map (dueD b kl mk zs ms))
  sep : Sep (tlD ++ TL) [DUE, HD, K, OT, CO]
  names : Names m ((Str.ofString "due", .ref DUE) :: (Str.ofString "before", .ref BE) :: names10 BU HD IS mk tm K OT CO b PP P)
/-- the same, what it speaks of hidden -/
inductive DJE (HD K OT CO DUE BE BU IS PP P : Addr) (oK : Obj) (hv os cs : List Value) (nh no nc : Nat) (kl : List (Int × Int)) (mk : Int) (tm : Tok) (zs ms : List Int) (TL : List (Addr × Obj)) (b : Bool) (i : Nat) (m : Str → Option Value) (nw : List (Addr × Obj)) : Prop
  | mk (dv : List Value) (nd : Nat) (tlD : List (Addr × Obj)) (j : DJ HD K OT CO DUE BE BU IS PP P oK hv os cs nh no nc kl mk tm zs ms TL b i m nw dv nd tlD) : DJE HD K OT CO DUE BE BU IS PP P oK hv os cs nh no nc kl mk tm zs ms TL b i m nw
theorem due_t {b : Bool} {kl : List (Int × Int)} {mk c o x : Int} (hb : b = true) (ho : mirOf c = o) (pos : ∀ q ∈ kl, 1 ≤ q.2) (h1 : o ≠ c) (h2 : (kl.lookup o).isSome = true) : o = codeT b kl c ∧ x = maskT b kl mk c x := by
  obtain ⟨y, hy, py⟩ := lookup_some ((lookup_keys kl o).mpr h2) pos
  have e : turnC kl c = true := by
    rw [turnC, ho, hy, Bool.and_eq_true]
    exact ⟨decide_eq_true h1, decide_eq_true (show y ≠ 0 by omega)⟩
  subst hb
  simp only [codeT, maskT, newC, newM, e, if_true, ho, and_self]
theorem due_n {b : Bool} {kl : List (Int × Int)} {mk c o x : Int} (hb : b = true) (ho : mirOf c = o) (h2 : (kl.lookup o).isSome = false) : c = codeT b kl c ∧ Builtin.bitOr x mk = maskT b kl mk c x := by
  have e : turnC kl c = false := by
    rw [turnC, ho]
    cases hk : kl.lookup o with
    | none => simp
    | some y => rw [hk] at h2; cases h2
  subst hb
  simp only [codeT, maskT, newC, newM, e, Bool.false_eq_true, if_false, if_true, and_self]
theorem due_e {b : Bool} {kl : List (Int × Int)} {mk c o x : Int} (hb : b = true) (ho : mirOf c = o) (h2 : o = c) : c = codeT b kl c ∧ Builtin.bitOr x mk = maskT b kl mk c x := by
  have e : turnC kl c = false := by
    rw [turnC, ho, h2]
    simp
  subst hb
  simp only [codeT, maskT, newC, newM, e, Bool.false_eq_true, if_false, if_true, and_self]
theorem due_f {b : Bool} {kl : List (Int × Int)} {mk c x : Int} (hb : b = false) : c = codeT b kl c ∧ x = maskT b kl mk c x := by
  subst hb
  simp [codeT, maskT]
theorem offN {own old nx : List (Addr × Obj)} {D : Addr} (off : OwnOff own (old.map (·.1))) (hl : ∀ q ∈ own, @LT.lt Nat _ q.1 D) (h : ∀ d ∈ nx.map (·.1), d ∈ D :: old.map (·.1)) : OwnOff own (nx.map (·.1)) := fun q hq d hd => by
  rcases List.mem_cons.mp (h d hd) with e | e
  · rw [e]; exact Nat.ne_of_lt (hl q hq)
  · exact off q hq d e
theorem DJ.close {HD K OT CO DUE BE BU IS PP P D : Addr} {oK : Obj} {hv os cs dv : List Value} {nh no nc nd i : Nat} {kl : List (Int × Int)} {mk x y : Int} {tm tx ty : Tok} {zs ms : List Int} {TL tlD own : List (Addr × Obj)} {b : Bool} {m' : Str → Option Value} {s₁ : Shared} {h' : Heap} {tk : Nat}
    (dat : DatAll tlD dv ((List.range i).map (dueD b kl mk zs ms))) (sep : Sep (tlD ++ TL) [DUE, HD, K, OT, CO]) (F : Fr h₀ L h' m')
    (N : News h₀ L h' ((D, { cls := .type "tuple", data := .seq #[.int x tx, .int y ty] }) :: (DUE, listOf (dv.toArray.push (.ref D)) (nd + 1)) :: (HD, listOf hv.toArray nh) :: (K, oK) :: (OT, listOf os.toArray no) :: (CO, listOf cs.toArray nc) :: (tlD ++ TL ++ own)))
    (off : OwnOff own (((DUE, listOf dv.toArray nd) :: (HD, listOf hv.toArray nh) :: (K, oK) :: (OT, listOf os.toArray no) :: (CO, listOf cs.toArray nc) :: (tlD ++ TL)).map (·.1)))
    (hl : AllLt D ((DUE, listOf dv.toArray nd) :: (HD, listOf hv.toArray nh) :: (K, oK) :: (OT, listOf os.toArray no) :: (CO, listOf cs.toArray nc) :: (tlD ++ TL ++ own)))
    (hxy : x = codeT b kl (zs.getD i 0) ∧ y = maskT b kl mk (zs.getD i 0) (ms.getD i 0)) (nm : Names m' ((Str.ofString "due", .ref DUE) :: (Str.ofString "before", .ref BE) :: names10 BU HD IS mk tm K OT CO b PP P)) :
    InvEndG h₀ L (fun m nw => DJE HD K OT CO DUE BE BU IS PP P oK hv os cs nh no nc kl mk tm zs ms TL b (i + 1) m nw) own s₁ { s₁ with heap := h', toks := tk } := by
  simp only [List.push_toArray] at N
  obtain ⟨l1, l2, l3, l4, l5, lr⟩ := hl
  have lr2 : AllLt D (tlD ++ TL) := allLt_of fun p hp => allLt_ne lr p (List.mem_append.mpr (.inl hp))
  refine turnEndG (nx := (DUE, listOf (dv ++ [Value.ref D]).toArray (nd + 1)) :: (HD, listOf hv.toArray nh) :: (K, oK) :: (OT, listOf os.toArray no) :: (CO, listOf cs.toArray nc) :: ((D, { cls := .type "tuple", data := .seq #[.int x tx, .int y ty] }) :: tlD ++ TL)) F N ?_ ?_ ?_
    ⟨dv ++ [Value.ref D], nd + 1, (D, { cls := .type "tuple", data := .seq #[.int x tx, .int y ty] }) :: tlD, rfl, ?_, ?_, nm⟩
  · repeat (refine subC (by k_mem) ?_)
    repeat (refine subT ?_)
    exact subL subI
  · repeat (refine subT ?_)
    exact subR subI
  · refine offN off (fun q hq => allLt_ne lr q (List.mem_append.mpr (.inr hq))) ?_
    show ∀ d ∈ DUE :: HD :: K :: OT :: CO :: D :: (tlD ++ TL).map (·.1), d ∈ D :: DUE :: HD :: K :: OT :: CO :: (tlD ++ TL).map (·.1)
    repeat (refine subC (by k_mem) ?_)
    repeat (first | exact subI | refine subT ?_)
  · rw [due_snoc]
    refine (dat.mono fun q hq => .tail _ hq).append (.one ?_)
    show DatIn _ _ (Dat.tuple [.int (codeT b kl (zs.getD i 0)), .int (maskT b kl mk (zs.getD i 0) (ms.getD i 0))])
    rw [← hxy.1, ← hxy.2]
    exact .tuple (vs := [.int x tx, .int y ty]) (n := 0) (.head _) (.cons (.int _ _) (.cons (.int _ _) .nil))
  · refine Sep.front (tl' := [(D, _)]) (fun d hd => ⟨?_, trivial⟩) sep
    simp only [List.mem_cons, List.not_mem_nil, or_false] at hd
    rcases hd with rfl | rfl | rfl | rfl | rfl <;> refine Nat.ne_of_gt (by assumption)
set_option maxRecDepth 100000 in
set_option maxHeartbeats 8000000 in
theorem partL {BU HD IS K OT CO PP P BE : Addr} {oK : Obj} {os cs hv : List Value} {no nc nh n : Nat} {mk : Int} {tm : Tok} {TL : List (Addr × Obj)} {b : Bool} {zs ot ms : List Int} {kl : List (Int × Int)} (B : Below A₀ base outer h₀) (F : Fr h₀ L s.heap m) (X : (Mine.hd.heap_39 w.params).In h₀)
    (N : News h₀ L s.heap ((HD, listOf hv.toArray nh) :: (K, oK) :: (OT, listOf os.toArray no) :: (CO, listOf cs.toArray nc) :: TL))
    (T : Top p loose mean mg mb h₀) (S : Sep TL [HD, K, OT, CO]) (ios : IntsAre os ot) (ics : IntsAre cs zs) (ihs : IntsAre hv ms) (lo' : ot.length = n) (lc : zs.length = n) (lm : ms.length = n) (len : n ≤ 10) (good : ∀ j, j < n → mirOf (zs.getD j 0) = ot.getD j 0)
    (dct : IsI prog w oK kl) (lo : (K == sysModules) = false) (hkl : kl.length ≤ 20) (pos : ∀ q ∈ kl, 1 ≤ q.2)
    (nm : Names m ((Str.ofString "before", .ref BE) :: names10 BU HD IS mk tm K OT CO b PP P)) (hdp : dp + 20 < recursionLimit) (hun : un + 64 < cLine) (hE : PassesOwn (model prog w) (lawTop dp un gd L CC fa ccd outer) (lawEnv L CC fa ccd) E)
    (done : ∀ m' h' tk' DUE dv nd tlD, Fr h₀ L h' m' → News h₀ L h' ((DUE, listOf dv.toArray nd) :: (tlD ++ TL)) → DatAll tlD dv ((List.range n).map (dueD b kl mk zs ms)) →
      Names m' ((Str.ofString "due", .ref DUE) :: (Str.ofString "before", .ref BE) :: names10 BU HD IS mk tm K OT CO b PP P) → Q .next { s with heap := h', toks := tk' }) :
    Box (wpAny (model prog w) (lawTop dp un gd L CC fa ccd outer) (execs (lawPart 18 2) (lawEnv L CC fa ccd)) Q E s) := by
  refine ⟨?_⟩
  dsimp only [lawPart, lawRec, recOf, List.drop, List.take]
  have hcs : cs.length = n := by rw [ics.length, lc]
  have S0 := S
  refine sepE S ?_
  dsimp only [SepK, NeK]
  intros
  replace F := fr_over _ F nm
  k_steps
  rename (IsRange _ _ _ _ _ _ _ _) => hr
  rename (Fr h₀ L _ _) => FR
  rename (News h₀ L _ _) => NR
  rename_i DUE hA lD hB FA NA t9 tk9 hR tkR t1 v1 w1 keepR
  have SD : Sep TL [DUE, HD, K, OT, CO] := by
    obtain ⟨g1, g2, g3, g4, g5⟩ := lD
    exact ⟨⟨Nat.ne_of_gt g1, Nat.ne_of_gt g2, Nat.ne_of_gt g3, Nat.ne_of_gt g4, trivial⟩, AllNe.of_lt g5, S0⟩
  show wpAny _ _ (pyIter _) _ _ _
  refine loopR (n := n) (fun i m nw => DJE HD K OT CO DUE BE BU IS PP P oK hv os cs nh no nc kl mk tm zs ms TL b i m nw) (by rfl) hr (small_one (by omega) (by omega) (by omega) (by omega)) (by rw [rangeSize_nat]; simp) FR NR ?j0 ?turn ?done
  case j0 => exact ⟨[], 0, [], rfl, .nil, SD, by k_extra "names9"⟩
  case turn =>
    clear FR NR hr FA NA
    rintro i t m1 nx h8 tk8 own hi ⟨dv, nd, tlD, j⟩ off F8 N8
    obtain ⟨led, dat, sep, names⟩ := j
    subst led
    have hdv : dv.length ≤ 10 := by have := dat.length; rw [List.length_map, List.length_range] at this; omega
    have S1 := Sep.own off (by simp) sep
    refine sepE S1 ?_
    dsimp only [SepK, NeK]
    intros
    simp only [List.cons_append] at N8
    replace F8 := fr_overIn names F8
    k_steps
    all_goals
      rename (Fr h₀ _ _ _) => FE
      rename (News h₀ _ _ _) => NE
      rename ((_ : Nat) < _ ∧ _) => l1
      simp only [Int.zero_add, Int.toNat_natCast] at *
      show InvEndG _ _ _ _ _ _
      first
        | (refine DJ.close dat sep FE NE off l1 ?_ (by k_extra "names9"); exact due_t (by assumption) (good _ hi) pos (by assumption) (by assumption); done)
        | (refine DJ.close dat sep FE NE off l1 ?_ (by k_extra "names9"); exact due_n (by assumption) (good _ hi) (by assumption); done)
        | (refine DJ.close dat sep FE NE off l1 ?_ (by k_extra "names9"); exact due_e (by assumption) (good _ hi) (by assumption); done)
        | (refine DJ.close dat sep FE NE off l1 ?_ (by k_extra "names9"); exact due_f (by assumption); done)
  case done =>
    rintro m1 nx h8 tk8 ⟨dv, nd, tlD, j⟩ F8 N8
    obtain ⟨led, dat, sep, names⟩ := j
    subst led
    k_steps
    exact done _ _ _ DUE dv nd tlD F8 (fun q hq => N8 q (by
      rcases List.mem_cons.mp hq with rfl | hq
      · exact .head _
      · exact .tail _ (.tail _ (.tail _ (.tail _ (.tail _ hq)))))) dat names
end
end Mine
namespace Mine
section
variable {prog : Program} {w : World} {p : Program} {loose : List Str} {mean : ExcName → Option Value} {mg mb : Str → Option Value}
  {dp un : Nat} {gd : Option (List Code)} {ccd : Value} {outer : List Env} {A₀ : Around} {base h₀ : Heap} {L CC fa : Addr} {oc : Obj} {m : Str → Option Value} {news : List (Addr × Obj)} {s : Shared} {Q : Flow → Shared → Prop} {E : Value → Shared → Prop}
theorem say_LM : True := by
  k_with_none
  k_with "room9" => (first | exact roomL 0 (by assumption) rfl | exact roomL 1 (by assumption) rfl | exact roomL 2 (by assumption) rfl | exact roomL 3 (by assumption) rfl | exact roomL 4 (by assumption) rfl | exact roomL 5 (by assumption) rfl | exact roomL 6 (by assumption) rfl | exact roomL 7 (by assumption) rfl | exact roomL 8 (by assumption) rfl | exact roomL 9 (by assumption) rfl | exact roomL 10 (by assumption) rfl | exact roomL 11 (by assumption) rfl | exact roomL 12 (by assumption) rfl | exact roomL 13 (by assumption) rfl | exact roomE 0 (by assumption) rfl | exact roomE 1 (by assumption) rfl | exact roomE 2 (by assumption) rfl | exact roomE 3 (by assumption) rfl | exact roomE 4 (by assumption) rfl)
  k_with "k_room" => (first | k_extra "room9" | ktr_room)
  k_with "and9" => (((repeat (with_reducible rename (_ ∧ _) => l8; first | exact l8.1 | exact Ne.symm l8.1 | exact Nat.ne_of_lt l8.1 | exact Nat.ne_of_gt l8.1 | exact Nat.ne_of_gt (Nat.lt_trans l8.1 (by assumption)) | exact Nat.ne_of_lt (Nat.lt_trans l8.1 (by assumption)) | (replace l8 := l8.2; first | exact l8 | exact Ne.symm l8 | exact Nat.ne_of_lt l8 | exact Nat.ne_of_gt l8 | skip))); done))
  k_with "k_ne" => ((refine neN ?_; (try dsimp only); first | assumption | exact Ne.symm (by assumption) | exact Nat.ne_of_lt (by assumption) | exact Nat.ne_of_gt (by assumption) | k_extra "and9" | omega))
  k_with "k_all" => (exact AllNe.ne (by assumption))
  k_with "call ref" => ((k_here; (with_reducible show wpAny _ _ (call (Value.ref 210) _ _) _ _ _); k_dflt (refine' draw_P ?k1 ?k2 ?k3 ?k4 ?k5 ?kK ?kU ?kp ?kC ?kc ?kn ?k6 ?k7 ?k8 ?kd ?_; (case kK => first | exact rfl | assumption); (case k1 => k_asm); (case k2 => k_asm); (case k3 => k_asm); (case k4 => k_asm); (case k5 => k_asm); (case kU => k_updF); (case kp => assumption); (case kC => k_mem); (case kc => assumption); (case kn => k_ne); (case k6 => first | k_extra "room9" | omega); (case k7 => first | exact of_decide_eq_true rfl | omega); (case k8 => first | exact of_decide_eq_true rfl | omega); (case kd => k_room); k_whole); intro _ _ _ _ _ _ N9 _ _ _; (try dsimp only at N9); (try dsimp only)))
  k_with "sep9" => (((repeat (rename ((_ : Nat) < _ ∧ _) => l8; obtain ⟨_, l7⟩ := l8)); (repeat (rename (@Ne Nat _ _ ∧ _) => l8; obtain ⟨_, l7⟩ := l8)); (simp only [Sep, NeL, and_true]); (repeat' apply And.intro); (all_goals first | assumption | k_ne | exact AllNe.of_lt (by assumption) | exact off1_allNe (by assumption) | exact AllNe.of_lt2 (by assumption) (by assumption) | exact trivial)))
  k_with "names9" => ((repeat' (first | exact names_nil | (refine names_cons (by with_unfolding_all rfl) ?_))))
  k_with "sub9" => ((intro _ hq; repeat (first | exact hq | exact List.mem_append.mpr (.inl hq) | refine List.Mem.tail _ ?_)))
  k_with "pyIter ref" => ((k_here; (with_reducible show wpAny _ _ (pyIter (Value.ref _)) (fun it s₂ => LoopAtV _ _ _ _ _ _ _ _ _ it s₂) _ _); refine stop_ ?_))
  k_with "call builtin:len" => ((k_here; (with_reducible show wpAny _ _ (call (Value.builtin "len") [Value.ref _]) _ _ _); k_dflt (refine' lenL_K ?k1 ?k2 ?k3 ?k4 ?_; (case k1 => k_asm); (case k2 => k_mem); (case k3 => assumption); (case k4 => omega); k_whole); intro _ _; (try dsimp only)))
  k_with "call ref" => ((k_here; (with_reducible show wpAny _ _ (call (Value.ref 137) _ _) _ _ _); refine stop_ ?_))
  k_with "eval ListComp" => ((k_here; k_dflt (refine Mine.ListComp_stop (F₀ := by k_asm) (by with_unfolding_all rfl) (by decide) (by rfl) (by decide) (by rfl) ?_)))
  k_with "compareOp NotEq ref ref" => ((k_here; (with_reducible show wpAny _ _ (compareOp CmpOp.NotEq (Value.ref _) (Value.ref _)) _ _ _); refine stop_ ?_))
  trivial
theorem neSame {A : Around} {R E : Value → Shared → Prop} {n₁ n₂ : List (Addr × Obj)} {v u : Value} {d : Dat} (N : News h₀ L s.heap news) (Da : DatIn n₁ v d) (sa : ∀ p ∈ n₁, p ∈ news) (Db : DatIn n₂ u d) (sb : ∀ p ∈ n₂, p ∈ news) (ok : kqdOk 9 d = true) (hu : A.units + 64 < cLine)
    (h : R (.bool false) s) : wpAny (model prog w) A (compareOp .NotEq v u) R E s := by
  obtain ⟨as, ra⟩ := kqd_in N 9 (Da.mono sa) ok
  obtain ⟨bs, rb⟩ := kqd_in N 9 (Db.mono sb) ok
  have la := kqd_lay 9 d ok
  have e : PyData.eqv (kqdP d) (kqdP d) = true := (kqd_eqv 9 d d 9 ok ok).mpr rfl
  refine ne_dataH ra rb ?_ ?_ hu (by rw [e]; exact h)
  · exact Bool.and_eq_true_iff.mpr ⟨la.1, decide_eq_true (Nat.le_trans la.2 (by decide))⟩
  · exact Bool.and_eq_true_iff.mpr ⟨la.1, decide_eq_true (Nat.le_trans la.2 (by decide))⟩
theorem ok_told (n : Nat) : kqdOk 9 (toldD n) = true := by
  simp [toldD, kqdOk, rowD]
theorem ok_due (b : Bool) (kl : List (Int × Int)) (mk : Int) (zs ms : List Int) (n : Nat) : kqdOk 9 (.list ((List.range n).map (dueD b kl mk zs ms))) = true := by
  simp [kqdOk, dueD]
set_option maxRecDepth 100000 in
set_option maxHeartbeats 8000000 in
theorem partM {BU DB IS K HD OT CO PP P BE DUE : Addr} {oB : Obj} {iv dv : List Value} {ni nd : Nat} {mk : Int} {tm : Tok} {R : List (Addr × Obj)} {b : Bool} {rs : List Rec} {zs ms zs' ms' : List Int} {kl : List (Int × Int)} (B : Below A₀ base outer h₀) (F : Fr h₀ L s.heap m) (X : (Mine.hd.heap_39 w.params).In h₀)
    (N : News h₀ L s.heap ((BU, instObj 147 DB) :: (DB, oB) :: (IS, listOf iv.toArray ni) :: (DUE, listOf dv.toArray nd) :: R))
    (T : Top p loose mean mg mb h₀) (hR : ∀ q ∈ rled rs, q ∈ R) (D1 : DatAll R dv ((List.range rs.length).map (dueD b kl mk zs ms))) (D2 : DatIn R (.ref BE) (toldD rs.length))
    (hb : IsBuf w IS b oB) (ivs : iv = rs.map fun r => Value.ref r.I) (recs : RecsOk w rs zs' ms') (len : rs.length ≤ 10) (hz : ∀ j, j < rs.length → zs'.getD j 0 = codeT b kl (zs.getD j 0) ∧ ms'.getD j 0 = maskT b kl mk (zs.getD j 0) (ms.getD j 0))
    (nm : Names m ((Str.ofString "due", .ref DUE) :: (Str.ofString "before", .ref BE) :: names10 BU HD IS mk tm K OT CO b PP P)) (hdp : dp + 20 < recursionLimit) (hun : un + 64 < cLine)
    (done : ∀ m' h' tk', Fr h₀ L h' m' → News h₀ L h' ((BU, instObj 147 DB) :: (DB, oB) :: (IS, listOf iv.toArray ni) :: (DUE, listOf dv.toArray nd) :: R) →
      Names m' ((Str.ofString "due", .ref DUE) :: (Str.ofString "before", .ref BE) :: names10 BU HD IS mk tm K OT CO b PP P) → Q .next { s with heap := h', toks := tk' }) :
    Box (wpAny (model prog w) (lawTop dp un gd L CC fa ccd outer) (execs (lawPart 20 1) (lawEnv L CC fa ccd)) Q E s) := by
  refine ⟨?_⟩
  dsimp only [lawPart, lawRec, recOf, List.drop, List.take]
  have nmS : Names m [(Str.ofString "buffer", .ref BU), (Str.ofString "due", .ref DUE), (Str.ofString "before", .ref BE)] := names_sub nm (by refine subC (by k_mem) (subC (by k_mem) (subC (by k_mem) (fun _ h => nomatch h))))
  replace F := fr_over _ F nmS
  have hiv : iv.toArray.size = rs.length := by rw [List.size_toArray, ivs, List.length_map]
  have hb' := hb
  cases hb
  k_steps
  rename (Fr h₀ L _ _) => FR
  rename (News h₀ L _ _) => NR
  obtain ⟨full, hfull, NF⟩ := news_gen NR
  have mIS : (IS, listOf iv.toArray ni) ∈ full := by rw [hfull]; exact .tail _ (.tail _ (.head _))
  have mR : ∀ q ∈ rled rs, q ∈ full := by rw [hfull]; exact fun q hq => .tail _ (.tail _ (.tail _ (.tail _ (hR q hq))))
  show LCg.CompSrc _ _ _ _ _ _ _ _ _ _ _ _ _ _
  refine LCg.CompSrc.ledger rfl FR NF mIS (by rw [hiv, sizeLine_eq]; omega) fun g1 => ?_
  refine compJ (fun i ys nw => ∃ tl2, nw = tl2 ++ full ∧ DatAll tl2 ys ((List.range i).map (dueD b kl mk zs ms)) ∧ ∀ p ∈ tl2, AllNe p.1 full) ?_ ?_ _ 0 [] _ (Nat.zero_add _) ⟨[], rfl, .nil, fun _ h => nomatch h⟩
  · clear NR
    rintro i ys nw v I oI C9 oC9 D9 m₂ h8 tk8 E8 hi ⟨tl2, rfl, dk, hoff⟩ hP hC hx F8 N8 o8 ne8
    have hv : iv[i]? = some v := by simpa using hP
    rw [ivs, List.getElem?_map] at hv
    obtain ⟨r, hr, rfl⟩ := Option.map_eq_some_iff.mp hv
    have hq := rled_mem hr
    have hinf := recs i r hr
    have hl : i < rs.length := (List.getElem?_eq_some_iff.mp hr).1
    rw [(hz i hl).1, (hz i hl).2] at hinf
    obtain ⟨rI, rD, ro⟩ := r
    simp only at hq hinf
    have N7 := news_front (l := [(rI, instObj 101 rD), (rD, ro)]) N8 (fun q hq' => by
      rcases List.mem_cons.mp hq' with rfl | hq'
      · exact .tail _ (.tail _ (.tail _ (List.mem_append.mpr (.inr (mR _ hq.1)))))
      · rw [List.mem_singleton.mp hq']
        exact .tail _ (.tail _ (.tail _ (List.mem_append.mpr (.inr (mR _ hq.2))))))
    simp only [List.cons_append, List.nil_append] at N7
    cases hinf
    clear N8
    k_steps
    rename (News h₀ L _ _) => NT
    rename (Fr h₀ L _ _) => FT
    rename (_ ∧ _ ∧ _ ∧ _ ∧ _ ∧ AllLt _ _) => lT
    show LCg.CompEnd _ _ _ _ _ _ _ _ _ _ _ _ _ _
    refine compEnd1 [] (tl2 ++ full) FT (news_drop2 (news_drop2 NT)) lT.2.2 o8 (.inr ⟨_, .tail _ (List.mem_append.mpr (.inr mIS)), rfl, _, rfl⟩) fun o1 _ => ⟨_ :: tl2, rfl, ?_, ?_⟩
    · rw [due_snoc]
      exact (dk.mono fun q hq => .tail _ hq).append (.one (.tuple (.head _) (.cons (.int _ _) (.cons (.int _ _) .nil))))
    · intro p hp
      rcases List.mem_cons.mp hp with rfl | hp
      · exact o1.right.right
      · exact hoff p hp
  · rintro ys nw ⟨tl2, rfl, dk, hoff⟩
    rw [hiv] at dk
    clear NR
    k_steps
    rename (Fr h₀ L _ _) => FE
    rename (News h₀ L _ _) => NE
    rename_i D9 h9 tk9 o9
    have sub1 : ∀ q ∈ full, q ∈ (D9, LCg.lst ys) :: (tl2 ++ full) := fun q hq => .tail _ (List.mem_append.mpr (.inr hq))
    have sub2 : ∀ q ∈ R, q ∈ full := by rw [hfull]; exact fun q hq => .tail _ (.tail _ (.tail _ (.tail _ hq)))
    show wpAny _ _ (compareOp CmpOp.NotEq (Value.ref _) (Value.ref _)) _ _ _
    refine neSame (n₁ := (D9, LCg.lst ys) :: (tl2 ++ full)) (n₂ := full) (d := .list ((List.range rs.length).map (dueD b kl mk zs ms))) NE (.list (.head _) (dk.mono fun q hq => .tail _ (List.mem_append.mpr (.inl hq)))) (fun q hq => hq) (.list (n := nd) (by rw [hfull]; exact .tail _ (.tail _ (.tail _ (.head _)))) (D1.mono sub2)) sub1 (ok_due _ _ _ _ _ _) (by ke_room) ?_
    have N3 := news_front (l := [(BU, instObj 147 DB), (DB, _)]) NE (fun q hq => sub1 q (by
      rw [hfull]
      rcases List.mem_cons.mp hq with rfl | hq
      · exact .head _
      · rw [List.mem_singleton.mp hq]; exact .tail _ (.head _)))
    simp only [List.cons_append, List.nil_append] at N3
    clear NE NF
    k_steps
    rename (Fr h₀ L _ _) => FT
    rename (News h₀ L _ _) => NT
    show wpAny _ _ (call (Value.ref 137) [Value.ref _]) _ _ _
    k_dflt (refine' told_K B FT X NT T ?kK (.head _) (.tail _ (.head _)) (.tail _ (.tail _ (sub1 _ mIS))) (fun q hq => .tail _ (.tail _ (sub1 _ (mR q hq)))) hb' ivs recs len ?kd ?_)
    (case kK => first | exact rfl | assumption)
    (case kd => k_room)
    intro x8 tl8 h8 tk8 F8 N8 o8 D8
    have sub3 : ∀ (x y : Addr × Obj), ∀ q ∈ full, q ∈ tl8 ++ (x :: y :: (D9, LCg.lst ys) :: (tl2 ++ full)) := fun _ _ q hq => List.mem_append.mpr (.inr (.tail _ (.tail _ (sub1 q hq))))
    k_steps
    show wpAny _ _ (compareOp CmpOp.NotEq (Value.ref _) (Value.ref _)) _ _ _
    refine neSame N8 D8 app_l D2 (fun q hq => sub3 _ _ q (sub2 q hq)) (ok_told _) (by ke_room) ?_
    k_steps
    rename (Fr h₀ L _ _) => FZ
    rename (News h₀ L _ _) => NZ
    exact done _ _ _ FZ (fun q hq => NZ q (sub3 _ _ q (by rw [hfull]; exact hq))) (names_same nmS nm)
end
end Mine
namespace Mine
section
variable {prog : Program} {w : World} {p : Program} {loose : List Str} {mean : ExcName → Option Value} {mg mb : Str → Option Value}
  {dp un : Nat} {gd : Option (List Code)} {ccd : Value} {outer : List Env} {A₀ : Around} {base h₀ : Heap} {L CC fa : Addr} {oc : Obj} {m : Str → Option Value} {news : List (Addr × Obj)} {s : Shared} {Q : Flow → Shared → Prop} {E : Value → Shared → Prop}
theorem say_LN : True := by
  k_with_none
  k_with "room9" => (first | exact roomL 0 (by assumption) rfl | exact roomL 1 (by assumption) rfl | exact roomL 2 (by assumption) rfl | exact roomL 3 (by assumption) rfl | exact roomL 4 (by assumption) rfl | exact roomL 5 (by assumption) rfl | exact roomL 6 (by assumption) rfl | exact roomL 7 (by assumption) rfl | exact roomL 8 (by assumption) rfl | exact roomL 9 (by assumption) rfl | exact roomL 10 (by assumption) rfl | exact roomL 11 (by assumption) rfl | exact roomL 12 (by assumption) rfl | exact roomL 13 (by assumption) rfl | exact roomE 0 (by assumption) rfl | exact roomE 1 (by assumption) rfl | exact roomE 2 (by assumption) rfl | exact roomE 3 (by assumption) rfl | exact roomE 4 (by assumption) rfl)
  k_with "k_room" => (first | k_extra "room9" | ktr_room)
  k_with "and9" => (((repeat (with_reducible rename (_ ∧ _) => l8; first | exact l8.1 | exact Ne.symm l8.1 | exact Nat.ne_of_lt l8.1 | exact Nat.ne_of_gt l8.1 | exact Nat.ne_of_gt (Nat.lt_trans l8.1 (by assumption)) | exact Nat.ne_of_lt (Nat.lt_trans l8.1 (by assumption)) | (replace l8 := l8.2; first | exact l8 | exact Ne.symm l8 | exact Nat.ne_of_lt l8 | exact Nat.ne_of_gt l8 | skip))); done))
  k_with "k_ne" => ((refine neN ?_; (try dsimp only); first | assumption | exact Ne.symm (by assumption) | exact Nat.ne_of_lt (by assumption) | exact Nat.ne_of_gt (by assumption) | k_extra "and9" | omega))
  k_with "k_all" => (exact AllNe.ne (by assumption))
  k_with "call ref" => ((k_here; (with_reducible show wpAny _ _ (call (Value.ref 210) _ _) _ _ _); k_dflt (refine' draw_P ?k1 ?k2 ?k3 ?k4 ?k5 ?kK ?kU ?kp ?kC ?kc ?kn ?k6 ?k7 ?k8 ?kd ?_; (case kK => first | exact rfl | assumption); (case k1 => k_asm); (case k2 => k_asm); (case k3 => k_asm); (case k4 => k_asm); (case k5 => k_asm); (case kU => k_updF); (case kp => assumption); (case kC => k_mem); (case kc => assumption); (case kn => k_ne); (case k6 => first | k_extra "room9" | omega); (case k7 => first | exact of_decide_eq_true rfl | omega); (case k8 => first | exact of_decide_eq_true rfl | omega); (case kd => k_room); k_whole); intro _ _ _ _ _ _ N9 _ _ _; (try dsimp only at N9); (try dsimp only)))
  k_with "sep9" => (((repeat (rename ((_ : Nat) < _ ∧ _) => l8; obtain ⟨_, l7⟩ := l8)); (repeat (rename (@Ne Nat _ _ ∧ _) => l8; obtain ⟨_, l7⟩ := l8)); (simp only [Sep, NeL, and_true]); (repeat' apply And.intro); (all_goals first | assumption | k_ne | exact AllNe.of_lt (by assumption) | exact off1_allNe (by assumption) | exact AllNe.of_lt2 (by assumption) (by assumption) | exact trivial)))
  k_with "names9" => ((repeat' (first | exact names_nil | (refine names_cons (by with_unfolding_all rfl) ?_))))
  k_with "sub9" => ((intro _ hq; repeat (first | exact hq | exact List.mem_append.mpr (.inl hq) | refine List.Mem.tail _ ?_)))
  k_with "pyIter ref" => ((k_here; (with_reducible show wpAny _ _ (pyIter (Value.ref _)) (fun it s₂ => LoopAtV _ _ _ _ _ _ _ _ _ it s₂) _ _); refine stop_ ?_))
  k_with "call builtin:len" => ((k_here; (with_reducible show wpAny _ _ (call (Value.builtin "len") [Value.ref _]) _ _ _); k_dflt (refine' lenL_K ?k1 ?k2 ?k3 ?k4 ?_; (case k1 => k_asm); (case k2 => k_mem); (case k3 => assumption); (case k4 => omega); k_whole); intro _ _; (try dsimp only)))
  trivial
noncomputable def bwL : List Str := [Str.ofString "arab", Str.ofString "hebr", Str.ofString "syrc", Str.ofString "thaa", Str.ofString "nko "]
theorem bw_tup {h : Heap} (X : (Mine.hd.heap_39 w.params).In h) : ∃ its : Array Value, IsTup h 22 its ∧ StrsAre its.toList bwL := by
  refine ⟨_, ⟨_, X 22 _ (by rfl), rfl, _, rfl⟩, ?_⟩
  unfold bwL
  repeat' constructor
theorem bwIn {A : Around} {R E : Value → Shared → Prop} {g : Heap} {L' : Addr} {m' : Str → Option Value} {x : Str} {t : Tok} (F : Fr g L' s.heap m') (X : (Mine.hd.heap_39 w.params).In g) (h : R (.bool (bwL.any (· == x))) s) : wpAny (model prog w) A (compareOp .In (.str x t) (.ref 22)) R E s := by
  obtain ⟨its, hT, hS⟩ := bw_tup (X.keeps F.keep)
  exact in_tuple_strs hT hS h
theorem say_LN1 : True := by
  k_with "compareOp In str ref" => ((k_here; (with_reducible show wpAny _ _ (compareOp CmpOp.In (Value.str _ _) (Value.ref 22)) _ _ _); k_dflt (refine' bwIn ?k1 ?k2 ?_; (case k1 => k_asm); (case k2 => k_asm); k_whole); (try dsimp only)))
  trivial
set_option maxRecDepth 100000 in
set_option maxHeartbeats 8000000 in
theorem partN2 {x : Str} {t : Tok} (B : Below A₀ base outer h₀) (F : Fr h₀ L s.heap m) (X : (Mine.hd.heap_39 w.params).In h₀) (T : Top p loose mean mg mb h₀)
    (nm : Names m [(Str.ofString "tag", .str x t)]) (hdp : dp + 20 < recursionLimit)
    (done : ∀ m' h' tk', Fr h₀ L h' m' → Q (.ret (.bool true)) { s with heap := h', toks := tk' }) :
    wpAny (model prog w) (lawTop dp un gd L CC fa ccd outer) (execs (lawPart 22 1) (lawEnv L CC fa ccd)) Q E s := by
  have N : News h₀ L s.heap [] := News.nil
  dsimp only [lawPart, lawRec, recOf, List.drop, List.take]
  replace F := fr_over _ F nm
  k_steps
  rename (Fr h₀ L _ _) => FE
  have e9 : ∀ x : Str, ((bwL.any fun y => y == x) == ([Str.ofString "arab", Str.ofString "hebr", Str.ofString "syrc", Str.ofString "thaa", Str.ofString "nko "].any fun y => y == x)) = true := fun x => by unfold bwL; exact beq_self_eq_true _
  rw [e9]
  exact done _ _ _ FE
theorem strAt_K {A : Around} {E Q : Value → Shared → Prop} {l : Addr} {value slice : PySem.Expr} {vs : List Value} {nP : Nat} {d : Int} {t : Tok}
    (N : News h₀ L s.heap news) (hm : (l, listOf vs.toArray nP) ∈ news) (hi : ∀ v ∈ vs, ∃ x t, v = .str x t) (h0 : 0 ≤ d) (h1 : d < (vs.length : Int)) (hz : vs.length ≤ 1000)
    (h : ∀ x u, Q (.str x u) s)
    (hs : subscripted slice false (.ref l) (.int d t) = operate [.ref l, .int d t] (getItem (.ref l) (.int d t))) : wpAny (model prog w) A (subscriptTail value slice (.ref l) (.int d t)) Q E s := by
  have hl : s.heap.IsList l vs.toArray := ⟨_, (N _ hm).1, rfl, _, rfl⟩
  have hlt : d.toNat < vs.length := (Int.toNat_lt h0).mpr h1
  obtain ⟨x, u, hv⟩ := hi vs[d.toNat] (List.getElem_mem hlt)
  refine tail_any hl.typeIs slot_list_getitem.lookup (wpAny_getItem_list hl h0 (by omega) (x := vs[d.toNat]) (by simp [hlt]) ?_) hs
  rw [hv]
  exact h x u
theorem strs_nil : ∀ v ∈ ([] : List Value), ∃ x t, v = .str x t := fun _ h => nomatch h
theorem strs_cons {x : Str} {t : Tok} {l : List Value} (h : ∀ v ∈ l, ∃ x t, v = .str x t) : ∀ v ∈ Value.str x t :: l, ∃ x t, v = .str x t := fun v hv => (List.mem_cons.mp hv).elim (fun e => ⟨x, t, e⟩) (h v)
theorem say_LNb : True := by
  k_with "subscriptTail" => ((k_here; (with_reducible show wpAny _ _ (subscriptTail _ _ (Value.ref _) (Value.int _ _)) _ _ _); k_dflt (refine' strAt_K ?k1 ?k2 ?k3 ?k5 ?k6 ?k7 ?_ ?k8; (case k1 => k_asm); (case k2 => k_mem); (case k3 => repeat (first | exact strs_nil | refine strs_cons ?_)); (case k5 => assumption); (case k6 => first | assumption | exact Int.lt_of_lt_of_le (by assumption) (Int.le_refl _)); (case k7 => exact Nat.le_of_ble_eq_true rfl); (case k8 => with_unfolding_all rfl); k_whole); intro _ _; (try dsimp only)))
  trivial
set_option maxRecDepth 100000 in
set_option maxHeartbeats 8000000 in
theorem partN1 {P C : Addr} {oP oC : Obj} {k : Nat} (B : Below A₀ base outer h₀) (F : Fr h₀ L s.heap m) (X : (Mine.hd.heap_39 w.params).In h₀)
    (N : News h₀ L s.heap ((P, oP) :: (C, oC) :: [])) (hPC : @Ne Nat P C)
    (T : Top p loose mean mg mb h₀) (pool : PoolOk oP C k) (hk : k ≤ 400) (cells : CellsOk oC)
    (nm : Names m [(Str.ofString "pool", .ref P)]) (hdp : dp + 20 < recursionLimit)
    (done : ∀ m' h' tk' x t, Fr h₀ L h' m' → Names m' [(Str.ofString "tag", .str x t)] → Q .next { s with heap := h', toks := tk' }) :
    wpAny (model prog w) (lawTop dp un gd L CC fa ccd outer) (execs (lawPart 21 1) (lawEnv L CC fa ccd)) Q E s := by
  dsimp only [lawPart, lawRec, recOf, List.drop, List.take]
  replace F := fr_over _ F nm
  k_steps
  all_goals
    rename (Fr h₀ L _ _) => FE
    exact done _ _ _ _ _ FE (names_cons (by with_unfolding_all rfl) names_nil)
end
end Mine
namespace Mine
section
variable {prog : Program} {w : World} {p : Program} {loose : List Str} {mean : ExcName → Option Value} {mg mb : Str → Option Value}
  {dp un : Nat} {gd : Option (List Code)} {ccd : Value} {outer : List Env} {A₀ : Around} {base h₀ : Heap} {L CC fa : Addr} {oc : Obj} {m : Str → Option Value} {news : List (Addr × Obj)} {s : Shared} {Q : Flow → Shared → Prop} {E : Value → Shared → Prop}
theorem say_LBody : True := by
  k_with_none
  k_with "room9" => (first | exact roomL 0 (by assumption) rfl | exact roomL 1 (by assumption) rfl | exact roomL 2 (by assumption) rfl | exact roomL 3 (by assumption) rfl | exact roomL 4 (by assumption) rfl | exact roomL 5 (by assumption) rfl | exact roomL 6 (by assumption) rfl | exact roomL 7 (by assumption) rfl | exact roomL 8 (by assumption) rfl | exact roomL 9 (by assumption) rfl | exact roomL 10 (by assumption) rfl | exact roomL 11 (by assumption) rfl | exact roomL 12 (by assumption) rfl | exact roomL 13 (by assumption) rfl | exact roomE 0 (by assumption) rfl | exact roomE 1 (by assumption) rfl | exact roomE 2 (by assumption) rfl | exact roomE 3 (by assumption) rfl | exact roomE 4 (by assumption) rfl)
  k_with "k_room" => (first | k_extra "room9" | ktr_room)
  k_with "and9" => (((repeat (with_reducible rename (_ ∧ _) => l8; first | exact l8.1 | exact Ne.symm l8.1 | exact Nat.ne_of_lt l8.1 | exact Nat.ne_of_gt l8.1 | exact Nat.ne_of_gt (Nat.lt_trans l8.1 (by assumption)) | exact Nat.ne_of_lt (Nat.lt_trans l8.1 (by assumption)) | (replace l8 := l8.2; first | exact l8 | exact Ne.symm l8 | exact Nat.ne_of_lt l8 | exact Nat.ne_of_gt l8 | skip))); done))
  k_with "k_ne" => ((refine neN ?_; (try dsimp only); first | assumption | exact Ne.symm (by assumption) | exact Nat.ne_of_lt (by assumption) | exact Nat.ne_of_gt (by assumption) | k_extra "and9" | omega))
  k_with "k_all" => (exact AllNe.ne (by assumption))
  k_with "call ref" => ((k_here; (with_reducible show wpAny _ _ (call (Value.ref 210) _ _) _ _ _); k_dflt (refine' draw_P ?k1 ?k2 ?k3 ?k4 ?k5 ?kK ?kU ?kp ?kC ?kc ?kn ?k6 ?k7 ?k8 ?kd ?_; (case kK => first | exact rfl | assumption); (case k1 => k_asm); (case k2 => k_asm); (case k3 => k_asm); (case k4 => k_asm); (case k5 => k_asm); (case kU => k_updF); (case kp => assumption); (case kC => k_mem); (case kc => assumption); (case kn => k_ne); (case k6 => first | k_extra "room9" | omega); (case k7 => first | exact of_decide_eq_true rfl | omega); (case k8 => first | exact of_decide_eq_true rfl | omega); (case kd => k_room); k_whole); intro _ _ _ _ _ _ N9 _ _ _; (try dsimp only at N9); (try dsimp only)))
  k_with "sep9" => (((repeat (rename ((_ : Nat) < _ ∧ _) => l8; obtain ⟨_, l7⟩ := l8)); (repeat (rename (@Ne Nat _ _ ∧ _) => l8; obtain ⟨_, l7⟩ := l8)); (simp only [Sep, NeL, and_true]); (repeat' apply And.intro); (all_goals first | assumption | k_ne | exact AllNe.of_lt (by assumption) | exact off1_allNe (by assumption) | exact AllNe.of_lt2 (by assumption) (by assumption) | exact trivial)))
  k_with "names9" => ((repeat' (first | exact names_nil | (refine names_cons (by with_unfolding_all rfl) ?_))))
  k_with "sub9" => ((intro _ hq; repeat (first | exact hq | exact List.mem_append.mpr (.inl hq) | refine List.Mem.tail _ ?_)))
  k_with "pyIter ref" => ((k_here; (with_reducible show wpAny _ _ (pyIter (Value.ref _)) (fun it s₂ => LoopAtV _ _ _ _ _ _ _ _ _ it s₂) _ _); refine stop_ ?_))
  k_with "call builtin:len" => ((k_here; (with_reducible show wpAny _ _ (call (Value.builtin "len") [Value.ref _]) _ _ _); k_dflt (refine' lenL_K ?k1 ?k2 ?k3 ?k4 ?_; (case k1 => k_asm); (case k2 => k_mem); (case k3 => assumption); (case k4 => omega); k_whole); intro _ _; (try dsimp only)))
  trivial
theorem part_split {A : Around} {env : Env} (k n k' : Nat) (hk : k' = k + n) (h : Box (wpAny (model prog w) A (execs (lawPart k n) env) (fun fl s' => match fl with | .next => Box (wpAny (model prog w) A (execs (lawRec.body.drop k') env) Q E s') | f => Q f s') E s)) : Box (wpAny (model prog w) A (execs (lawRec.body.drop k) env) Q E s) := by
  have e : lawRec.body.drop k = lawPart k n ++ lawRec.body.drop (k + n) := by
    unfold lawPart
    rw [← List.drop_drop, List.take_append_drop]
  rw [e]
  subst hk
  refine ⟨execs_split (wpAny_mono h.out (fun fl s' h' => ?_) fun _ _ x => x)⟩
  cases fl with
  | next => exact h'.out
  | _ => exact h'
theorem perm3 {a b c d e f g x1 x2 x3 x4 : Addr × Obj} {r : List (Addr × Obj)} : ∀ q ∈ c :: e :: f :: g :: a :: b :: d :: x2 :: x3 :: r, q ∈ a :: b :: c :: d :: e :: f :: g :: x1 :: x2 :: x3 :: x4 :: r := by
  repeat (refine subC (by k_mem) ?_)
  repeat (first | exact subI | refine subT ?_)
theorem perm4 {a b c d x y : Addr × Obj} {r t : List (Addr × Obj)} : ∀ q ∈ a :: b :: c :: d :: x :: y :: (t ++ r), q ∈ d :: (t ++ a :: b :: c :: x :: y :: r) := by
  repeat (refine subC (by first | exact .head _ | exact .tail _ (List.mem_append.mpr (.inr (by k_mem)))) ?_)
  refine subT (subA (subL subI) (subR ?_))
  repeat (first | exact subI | refine subT ?_)
theorem good_at {zs : List (Int × Int)} (good : ∀ z ∈ zs, GoodZ z) : ∀ j, j < zs.length → mirOf ((zs.map (·.1)).getD j 0) = (zs.map (·.2)).getD j 0 := by
  intro j hj
  have h := good zs[j] (List.getElem_mem hj)
  simpa [List.getD_eq_getElem?_getD, hj] using h.1
set_option maxRecDepth 100000 in
set_option maxHeartbeats 8000000 in
theorem lawBody {l : Addr} {vs : List Value} {ns : List Int} {v₀ : Option Value} (B : Below A₀ base outer h₀) (F : Fr h₀ L s.heap m) (X : (Mine.hd.heap_39 w.params).In h₀) (N : News h₀ L s.heap [(CC, oc)]) (hoc : oc.data = .cell v₀)
    (T : Top p loose mean mg mb h₀) (hs : m (Str.ofString "script") = some (.ref l)) (hl : base.IsList l vs.toArray) (hi : IntsAre vs ns) (hlen : ns.length ≤ 63) (hdp : dp + 20 < recursionLimit) (hun : un + 64 < cLine) (hE : PassesOwn (model prog w) (lawTop dp un gd L CC fa ccd outer) (lawEnv L CC fa ccd) E)
    (done : ∀ m' h' tk', Fr h₀ L h' m' → Q (.ret (.bool true)) { s with heap := h', toks := tk' }) :
    Box (wpAny (model prog w) (lawTop dp un gd L CC fa ccd outer) (execs (lawRec.body.drop 0) (lawEnv L CC fa ccd)) Q E s) := by
  refine part_split 0 5 5 rfl ⟨partA B F X N T hs hl hi hlen hdp ?_⟩
  intro b P C PP CO OT oP oC vP nP tl m1 h1 tk1 F1 N1 S1 pool1 cells dat nm1
  have hvP : vP.length = 88 := by have := dat.length; rw [this]; decide
  dsimp only
  refine part_split 5 1 6 rfl ⟨partB B F1 X N1 S1 T pool1 cells dat nm1 hdp hE ?_⟩
  intro n os cs no nc oP2 zs m2 nw2 h2 tk2 hn1 hn2 F2 N2 j2
  obtain ⟨led, pool2, ios, ics, len, good, nm2⟩ := j2
  subst led
  subst len
  dsimp only
  refine part_split 6 1 7 rfl ⟨partC B F2 X N2 T ios ics hn1 hn2 good nm2 hdp hE ?_⟩
  intro m3 h3 tk3 F3 N3 nm3
  dsimp only
  refine part_split 7 2 9 rfl ⟨partD (v₀ := v₀) B F3 X N3 S1 T ios ics hn2 good hvP hoc nm3 hdp hun hE ?_⟩
  intro m4 h4 tk4 oc4 F4 N4 nm4
  dsimp only
  refine part_split 9 2 11 rfl ⟨partE B F4 X N4 S1 T ios ics hn2 pool2 (by omega) cells nm4 hdp hE ?_⟩
  intro m5 h5 tk5 K oK oP5 kl F5 N5 S5 dct lo hkl pos pool5 nm5
  dsimp only
  refine part_split 11 2 13 rfl (partF B F5 X N5 S5 T pool5 (by omega) cells nm5 hdp ?_)
  intro m6 h6 tk6 IS oP6 mk tm F6 N6 S6 mk0 mk8 pool6 nm6
  dsimp only
  refine part_split 13 1 14 rfl ⟨partG B F6 X N6 S6 T ics hn2 pool6 (by omega) cells nm6 hdp hE ?_⟩
  intro m7 nw7 iv ni oP7 rs ms h7 tk7 F7 N7 j7
  obtain ⟨led, pool7, ivs, recs, len, lem, sep7, apart, nm7⟩ := j7
  subst led
  dsimp only
  refine part_split 14 1 15 rfl ⟨partH (k := 0) B F7 X N7 T ivs recs len lem hn2 sep7 nm7 hdp ?_⟩
  intro m8 h8 tk8 HD hv F8 N8 S8 ihs nm8
  dsimp only
  refine part_split 15 1 16 rfl ⟨partI B F8 X N8 T S8 nm8 hdp ?_⟩
  intro m9 h9 tk9 BU DB oB F9 N9 S9 hb nm9
  dsimp only
  refine part_split 16 1 17 rfl ⟨partJ B F9 X N9 T S9 hb ivs recs (by omega) apart nm9 hdp ?_⟩
  intro m10 h10 tk10 BE tl2 F10 N10 S10 ap10 D10 nm10
  dsimp only
  refine part_split 17 1 18 rfl ⟨partK B F10 X N10 T S10 hb ivs recs (by omega) ap10 dct lo hkl pos nm10 hdp hun ?_⟩
  intro m11 h11 tk11 rs' zs' ms' F11 N11 same recs' hz nm11
  have elen : rs'.length = rs.length := by have := congrArg List.length same; simpa using this
  have ivs' : iv = rs'.map fun r => Value.ref r.I := by
    have := congrArg (List.map fun q : Addr × Addr => Value.ref q.1) same
    rw [List.map_map, List.map_map] at this
    rw [ivs]
    exact this.symm
  have S11 : Sep (rled rs' ++ tl2) [BU, DB, HD, IS, K, OT, CO, PP, P, C, CC] := S10.same (by rw [List.map_append, List.map_append, rled_same same])
  have SL : Sep ((BU, instObj 147 DB) :: (DB, oB) :: (IS, listOf iv.toArray ni) :: (P, oP7) :: (C, oC) :: (rled rs' ++ tl2)) [HD, K, OT, CO] :=
    ⟨⟨S11.2.2.2.2.1.2.1, S11.2.2.2.2.1.2.2.1, S11.2.2.2.2.1.2.2.2.1, trivial⟩,
    ⟨S11.1.2.1, S11.2.2.1.1, (Ne.symm S11.2.2.2.2.1.1), (Ne.symm S11.2.2.2.2.1.2.2.2.2.2.1), (Ne.symm S11.2.2.2.2.1.2.2.2.2.2.2.1), S11.2.2.2.2.2.1⟩,
    ⟨S11.2.2.2.2.2.2.2.2.1.1, S11.2.2.2.2.2.2.2.2.1.2.1, trivial⟩,
    ⟨S11.1.2.2.2.1, S11.2.2.1.2.2.1, S11.2.2.2.2.2.2.1.1, (Ne.symm S11.2.2.2.2.2.2.2.2.1.2.2.2.1), (Ne.symm S11.2.2.2.2.2.2.2.2.1.2.2.2.2.1), S11.2.2.2.2.2.2.2.2.2.1⟩,
    ⟨S11.2.2.2.2.2.2.2.2.2.2.1.1, trivial⟩,
    ⟨S11.1.2.2.2.2.1, S11.2.2.1.2.2.2.1, S11.2.2.2.2.2.2.1.2.1, (Ne.symm S11.2.2.2.2.2.2.2.2.2.2.1.2.2.1), (Ne.symm S11.2.2.2.2.2.2.2.2.2.2.1.2.2.2.1), S11.2.2.2.2.2.2.2.2.2.2.2.1⟩,
    trivial,
    ⟨S11.1.2.2.2.2.2.1, S11.2.2.1.2.2.2.2.1, S11.2.2.2.2.2.2.1.2.2.1, (Ne.symm S11.2.2.2.2.2.2.2.2.2.2.2.2.1.2.1), (Ne.symm S11.2.2.2.2.2.2.2.2.2.2.2.2.1.2.2.1), S11.2.2.2.2.2.2.2.2.2.2.2.2.2.1⟩, trivial⟩
  have hgood := good_at good
  have hPC : @Ne Nat P C := S11.2.2.2.2.2.2.2.2.2.2.2.2.2.2.2.2.1.1
  dsimp only
  refine part_split 18 2 20 rfl (partL (n := zs.length) (nh := hv.length) (ot := zs.map (·.2)) (zs := zs.map (·.1)) (ms := ms) B F11 X (fun q hq => N11 q (perm3 q hq)) T SL ios ics ihs (by rw [List.length_map]) (by rw [List.length_map]) lem hn2 hgood dct lo hkl pos nm11 hdp hun hE ?_)
  intro m12 h12 tk12 DUE dv nd tlD F12 N12 D12 nm12
  have e2 : zs.length = rs'.length := by rw [elen, len]
  rw [e2] at D12
  dsimp only
  refine part_split 20 1 21 rfl (partM (rs := rs') (zs := zs.map (·.1)) (ms := ms) (zs' := zs') (ms' := ms') (kl := kl) (R := (P, oP7) :: (C, oC) :: (tlD ++ (rled rs' ++ tl2))) B F12 X (fun q hq => N12 q (perm4 q hq)) T ?hR (D12.mono fun q hq => .tail _ (.tail _ (List.mem_append.mpr (.inl hq)))) ?hD hb ivs' recs' (by omega) (fun j hj => hz j (by omega)) nm12 hdp hun ?_)
  case hR => exact fun q hq => .tail _ (.tail _ (List.mem_append.mpr (.inr (List.mem_append.mpr (.inl hq)))))
  case hD =>
    rw [elen]
    exact D10.mono fun q hq => .tail _ (.tail _ (List.mem_append.mpr (.inr (List.mem_append.mpr (.inr hq)))))
  intro m13 h13 tk13 F13 N13 nm13
  dsimp only
  refine part_split 21 1 22 rfl ⟨partN1 (P := P) (C := C) B F13 X (fun q hq => N13 q ?hN) hPC T pool7 (by omega) cells ?nm hdp ?_⟩
  case hN =>
    rcases List.mem_cons.mp hq with rfl | hq
    · exact .tail _ (.tail _ (.tail _ (.tail _ (.head _))))
    · rw [List.mem_singleton.mp hq]; exact .tail _ (.tail _ (.tail _ (.tail _ (.tail _ (.head _)))))
  case nm => exact names_cons (nm13 _ (.tail _ (.tail _ (.tail _ (.tail _ (.tail _ (.tail _ (.tail _ (.tail _ (.tail _ (.tail _ (.tail _ (.head _))))))))))))) names_nil
  intro m14 h14 tk14 x14 t14 F14 nm14
  dsimp only
  refine part_split 22 1 23 rfl ⟨partN2 B F14 X T nm14 hdp ?_⟩
  intro m15 h15 tk15 F15
  exact done _ _ _ F15
end
end Mine
set_option maxRecDepth 100000 in
set_option maxHeartbeats 8000000 in
theorem PySem.Challenge.cw_nu0156_01_holds : PySem.Challenge.rw_nu0156_01.Holds :=
  Mine.hd (by
  k_go0
  all_goals try k_fold
  rename (Fr _ _ _ _) => F9
  rename (News _ _ _ _) => N9
  rename (PyProof.Rows.Top _ _ _ _ _ _) => T9
  rename (Below _ _ _ _) => B9
  rename (Frag.In _ _) => X9
  rename (Heap.IsList _ _ _) => hl9
  rename (IntsAre _ _) => hi9
  rename (_ = Data.cell _) => hc9
  rename (¬ _ < _) => hn9
  refine' Mine.Box.out (Mine.lawBody B9 F9 X9 N9 hc9 T9 ?hs hl9 hi9 ?hlen ?hdp ?hun ?hE ?done)
  case hs => with_unfolding_all rfl
  case hlen => omega
  case hdp => decide
  case hun => decide
  case hE => passes_own
  case done =>
    intro m1 h1 tk1 F1
    k_steps)
