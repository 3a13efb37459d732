import PyProof.Rows.All
import Wide.All
import OpenK.AllK
import Wide.FinOn
import PySem.Challenge.RW_pb0234_01
open PySem PySem.W PySem.Calls PySem.Spec PyProof.Rows
set_option Elab.async false
set_option rowWalk.seconds 0
set_option linter.all false
set_option linter.constructorNameAsVariable false
set_option linter.unusedVariables false
namespace Mine
/-- the text less its four rows that name a file -/
def view : Program := { PySem.Challenge.pw_pb0234_01 with main := { PySem.Challenge.pw_pb0234_01.main with body := (((PySem.Challenge.pw_pb0234_01.main.body.eraseIdx 20).eraseIdx 9).eraseIdx 4).eraseIdx 1 } }
/-- the text's top from the library's booted heap on -/
theorem left_boot {p q : Program} {loose : List Str} {Xt : Shared → Bool} {α : Type} {Yf : Shared → α} {Ya : World → α} {N : Nat} {g0 : Bool} (e : opening p = plainProg p.main.scope.names) (hN : Nat.ble 600 N = true) (f : ∀ s, fenceModules? p s = some s)
    (h : ∀ (w : World) (os : OsState), (topFrom treeTable p w N ⟨boot_heap w.params, Array.mk [], boot_drawn, boot_toks, os⟩).map (fun s => (openSeen q loose (importedModules p.main.body) Xt g0 s, Yf s)) = some (openGood q loose, Ya w)) : LeftO p q loose Xt Yf Ya N g0 := by
  intro w
  obtain ⟨⟨hp, gs, d, k, os⟩, a, b⟩ := Option.map_eq_some_iff.mp (boot_open (N := N) e hN f w)
  obtain ⟨rfl, rfl, rfl, rfl⟩ : hp = boot_heap w.params ∧ gs = Array.mk [] ∧ d = boot_drawn ∧ k = boot_toks := by simpa using b
  unfold openEnds
  rw [a]
  exact h w os
section Top
local macro_rules | `(tactic| o_head $H) => `(tactic| (
  refine holds_open (q := view) (loose := [Str.ofString "LedgerError"]) (Xt := fun s => xlAt view [] s && recOk (RowW.records PySem.Challenge.rw_pb0234_01.row.toRowW) s) (XP := XL view []) (Yf := Hook.obs $H) (Ya := Hook.val $H) (YP := Hook.says $H) (N := 3760) ?hl (Hook.of $H) (Hook.keeps $H) (fun s e => xl_of s (Bool.and_eq_true_iff.mp e).1) XL.keeps (by rfl) (by rfl) (by rfl) (fun s e => recFacts_of (Bool.and_eq_true_iff.mp e).2) (by rfl) (by first | assumption | decide +kernel) (by decide +kernel) ⟨rfl, rfl, rfl, rfl, rfl, by decide +kernel⟩ ?hw ?hc
  (case hl => (refine left_boot (by kernel_rfl) (by kernel_rfl) (by intro s; kernel_rfl) ?_; intro w os; unfold topFrom; (try rw [PySem.W.Fast.te14082659384304107361]); (try rw [PySem.W.Fast.te14364793385576792824]); (try rw [PySem.W.Fast.te4187177175401517315]); (try rw [PySem.W.Fast.te8920871248978507458]); kernel_rfl))))
set_option maxRecDepth 100000 in
set_option maxHeartbeats 8000000 in
open_top hd for PySem.Challenge.rw_pb0234_01
end Top
structure Stop (P : Prop) : Prop where
  h : P
theorem Stop.on {P : Prop} (x : Stop P) : P := x.h
section PEps
open PySem
universe u v w z
theorem eps_ex {α : Type u} (ne : Nonempty α) (G : α → Prop) : ∃ c, G c → ∀ x, G x := by
  by_cases h : ∀ x, G x
  · exact ⟨Classical.choice ne, fun _ => h⟩
  · obtain ⟨c, hc⟩ := Classical.not_forall.mp h
    exact ⟨c, fun g => absurd g hc⟩
noncomputable def eps {α : Type u} (ne : Nonempty α) (G : α → Prop) : α := Classical.choose (eps_ex ne G)
theorem eps_all {α : Type u} (ne : Nonempty α) {G : α → Prop} (h : have x := eps ne G; G x) : ∀ x, G x := Classical.choose_spec (eps_ex ne G) h
theorem eps_ex2 {α : Type u} {β : Type v} (na : Nonempty α) (nb : Nonempty β) (G : α → β → Prop) : ∃ c d, G c d → ∀ x y, G x y := by
  by_cases h : ∀ x y, G x y
  · exact ⟨Classical.choice na, Classical.choice nb, fun _ => h⟩
  · obtain ⟨c, hc⟩ := Classical.not_forall.mp h
    obtain ⟨d, hd⟩ := Classical.not_forall.mp hc
    exact ⟨c, d, fun g => absurd g hd⟩
theorem eps_ex3 {α : Type u} {β : Type v} {γ : Type w} (na : Nonempty α) (nb : Nonempty β) (nc : Nonempty γ) (G : α → β → γ → Prop) : ∃ c d e, G c d e → ∀ x y z, G x y z := by
  by_cases h : ∀ x y z, G x y z
  · exact ⟨Classical.choice na, Classical.choice nb, Classical.choice nc, fun _ => h⟩
  · obtain ⟨c, hc⟩ := Classical.not_forall.mp h
    obtain ⟨d, hd⟩ := Classical.not_forall.mp hc
    obtain ⟨e, he⟩ := Classical.not_forall.mp hd
    exact ⟨c, d, e, fun g => absurd g he⟩
theorem eps_ex4 {α : Type u} {β : Type v} {γ : Type w} {δ : Type z} (na : Nonempty α) (nb : Nonempty β) (nc : Nonempty γ) (nd : Nonempty δ) (G : α → β → γ → δ → Prop) : ∃ c d e f, G c d e f → ∀ x y z u, G x y z u := by
  by_cases h : ∀ x y z u, G x y z u
  · exact ⟨Classical.choice na, Classical.choice nb, Classical.choice nc, Classical.choice nd, fun _ => h⟩
  · obtain ⟨c, hc⟩ := Classical.not_forall.mp h
    obtain ⟨d, hd⟩ := Classical.not_forall.mp hc
    obtain ⟨e, he⟩ := Classical.not_forall.mp hd
    obtain ⟨f, hf⟩ := Classical.not_forall.mp he
    exact ⟨c, d, e, f, fun g => absurd g hf⟩
section
variable {α : Type u} {β : Type v} {γ : Type w} {δ : Type z} (na : Nonempty α) (nb : Nonempty β) (nc : Nonempty γ) (nd : Nonempty δ)
noncomputable def e21 (G : α → β → Prop) : α := Classical.choose (eps_ex2 na nb G)
noncomputable def e22 (G : α → β → Prop) : β := Classical.choose (Classical.choose_spec (eps_ex2 na nb G))
theorem eps_all2 {G : α → β → Prop} (h : have x := e21 na nb G; have y := e22 na nb G; G x y) : ∀ x y, G x y := Classical.choose_spec (Classical.choose_spec (eps_ex2 na nb G)) h
noncomputable def e31 (G : α → β → γ → Prop) : α := Classical.choose (eps_ex3 na nb nc G)
noncomputable def e32 (G : α → β → γ → Prop) : β := Classical.choose (Classical.choose_spec (eps_ex3 na nb nc G))
noncomputable def e33 (G : α → β → γ → Prop) : γ := Classical.choose (Classical.choose_spec (Classical.choose_spec (eps_ex3 na nb nc G)))
theorem eps_all3 {G : α → β → γ → Prop} (h : have x := e31 na nb nc G; have y := e32 na nb nc G; have z := e33 na nb nc G; G x y z) : ∀ x y z, G x y z := Classical.choose_spec (Classical.choose_spec (Classical.choose_spec (eps_ex3 na nb nc G))) h
noncomputable def e41 (G : α → β → γ → δ → Prop) : α := Classical.choose (eps_ex4 na nb nc nd G)
noncomputable def e42 (G : α → β → γ → δ → Prop) : β := Classical.choose (Classical.choose_spec (eps_ex4 na nb nc nd G))
noncomputable def e43 (G : α → β → γ → δ → Prop) : γ := Classical.choose (Classical.choose_spec (Classical.choose_spec (eps_ex4 na nb nc nd G)))
noncomputable def e44 (G : α → β → γ → δ → Prop) : δ := Classical.choose (Classical.choose_spec (Classical.choose_spec (Classical.choose_spec (eps_ex4 na nb nc nd G))))
theorem eps_all4 {G : α → β → γ → δ → Prop} (h : have x := e41 na nb nc nd G; have y := e42 na nb nc nd G; have z := e43 na nb nc nd G; have u := e44 na nb nc nd G; G x y z u) : ∀ x y z u, G x y z u := Classical.choose_spec (Classical.choose_spec (Classical.choose_spec (Classical.choose_spec (eps_ex4 na nb nc nd G)))) h
end
def Tag {T : Prop} (_ : T) : Prop := True
theorem tag_triv {T : Prop} {p : T} : Tag p := True.intro
theorem ofTag {T : Prop} {p : T} (_ : Tag p) : T := p
theorem ne_Nat : Nonempty Nat := inferInstance
theorem ne_Int : Nonempty Int := inferInstance
theorem ne_Str : Nonempty Str := ⟨Str.ofString ""⟩
theorem ne_Value : Nonempty Value := ⟨.none⟩
theorem ne_Heap : Nonempty Heap := inferInstance
theorem ne_Env : Nonempty Env := inferInstance
theorem ne_Shared : Nonempty Shared := ⟨{}⟩
theorem ne_Around : Nonempty Around := ⟨{}⟩
theorem ne_Program : Nonempty Program := inferInstance
theorem ne_World : Nonempty World := ⟨⟨fun _ _ => 0, { strHash := fun _ => 0, shareClass := fun _ => 0, mergeTok := id, idOf := fun _ => 0, idOfShared := fun _ _ => 0, followText := fun _ => true, idOfImm := fun _ => 0 }⟩⟩
theorem ne_List {α : Type u} : Nonempty (List α) := ⟨[]⟩
theorem ne_Option {α : Type u} : Nonempty (Option α) := ⟨none⟩
theorem ne_Arr {α : Type u} : Nonempty (Array α) := ⟨#[]⟩
theorem ne_fun {α : Type u} {β : Type u} (h : Nonempty β) : Nonempty (α → β) := ⟨fun _ => Classical.choice h⟩
theorem ne_Obj : Nonempty Obj := ⟨⟨.none, none, .cell none, #[]⟩⟩
theorem ne_FuncData : Nonempty FuncData := ⟨default⟩
theorem ne_prod {α : Type u} {β : Type v} (a : Nonempty α) (b : Nonempty β) : Nonempty (α × β) := ⟨(Classical.choice a, Classical.choice b)⟩
theorem ne_Prop : Nonempty Prop := ⟨True⟩
end PEps
section PBase
open PySem PySem.W PySem.Calls PySem.Spec PyProof.Rows
theorem fillK : PySem.Challenge.rw_pb0234_01 = PySem.Challenge.rw_pb0234_01 ∧ hd.heap_39 = hd.heap_39 := by k_fill; exact ⟨rfl, rfl⟩
abbrev Led := List (Addr × Obj)
abbrev TopA (dp un : Nat) (gd : Option (List Code)) (env : Env) (outer : List Env) : Around := { handled := none, depth := dp, frames := some (env :: outer), guards := gd, units := un }
theorem ne_l {a b : Nat} {o : Obj} {l : Led} (h : ∀ p ∈ l, p.1 < b) (hm : ((a : Addr), o) ∈ l) : a ≠ b := Nat.ne_of_lt (h _ hm)
theorem ne_l1 {a b : Nat} {o : Obj} {l : Led} (h : ∀ p ∈ l, p.1 < b) (hm : ((a : Addr), o) ∈ l) : a ≠ b + 1 := Nat.ne_of_lt (Nat.lt_succ_of_lt (h _ hm))
theorem ne_l2 {a b : Nat} {o : Obj} {l : Led} (h : ∀ p ∈ l, p.1 < b) (hm : ((a : Addr), o) ∈ l) : a ≠ b + 1 + 1 := Nat.ne_of_lt (Nat.lt_succ_of_lt (Nat.lt_succ_of_lt (h _ hm)))
theorem ne_l3 {a b : Nat} {o : Obj} {l : Led} (h : ∀ p ∈ l, p.1 < b) (hm : ((a : Addr), o) ∈ l) : a ≠ b + 1 + 1 + 1 := Nat.ne_of_lt (Nat.lt_succ_of_lt (Nat.lt_succ_of_lt (Nat.lt_succ_of_lt (h _ hm))))
theorem all_ne {b : Nat} {R l : Led} (h : ∀ p ∈ l, p.1 < b) (hs : ∀ q ∈ R, q ∈ l) : ∀ q ∈ R, q.1 ≠ b := fun q hq => Nat.ne_of_lt (h q (hs q hq))
theorem rm0 {a U lim : Nat} (h : a + U < lim) : a < lim := by omega
theorem rm1 {a b U lim : Nat} (h : a + U < lim) (hb : b ≤ U) : a + b < lim := by omega
theorem rm2 {a b c U lim : Nat} (h : a + U < lim) (hb : b + c ≤ U) : a + b + c < lim := by omega
theorem rm3 {a b c d U lim : Nat} (h : a + U < lim) (hb : b + c + d ≤ U) : a + b + c + d < lim := by omega
/-- all that stands off the ledger stays, and what is made is new -/
structure Back (pre led : Led) (h h' : Heap) : Prop where
  keep : ∀ b o, h.get? b = some o → (∀ p ∈ pre, p.1 ≠ b) → h'.get? b = some o
  new : ∀ q ∈ led, ∀ b o, h.get? b = some o → (∀ p ∈ pre, p.1 ≠ b) → q.1 ≠ b
def Stays (pre : Led) (h g : Heap) : Prop := ∀ b o, h.get? b = some o → (∀ p ∈ pre, p.1 ≠ b) → g.get? b = some o
theorem Stays.back {pre led : Led} {h g h' : Heap} {L : Addr} {m : Str → Option Value} (S : Stays pre h g) (F : Fr g L h' m) (N : News g L h' led) : Back pre led h h' where
  keep b o e n := F.keep b o (S b o e n)
  new q hq b o e n x := by have := (N q hq).2.2; rw [x, S b o e n] at this; cases this

section
variable {prog : Program} {w : World} {A A₀ : Around} {s : Shared} {K : Frag} {L : Addr} {h₀ base : Heap} {m mg mb : Str → Option Value} {news : Led} {p : Program} {loose : List Str} {mean : ExcName → Option Value}
theorem stays_hide : Stays news s.heap (hideAll s.heap (news.map (·.1))) := fun b o e n => hideAll_get _ e fun q => by
  obtain ⟨x, hx, rfl⟩ := List.mem_map.mp q
  exact n x hx rfl
/-- a def's body entered, with what is known of the heap that it finds -/
theorem code_here {env : Env} {outer : List Env} {R : Result → Shared → Prop} {name qual : Str} {params : Arguments} {body : List Stmt} {scope : Scope} {dV kV doc pm cdv ct oc : Value} {an od : Option Addr} {osl : Array (Option Value)} {f : Addr} {args : Args} {binds : List (Str × Value)}
    (B : Below A₀ base outer h₀) (F : Fr h₀ L s.heap m) (X₀ : K.In h₀) (N : News h₀ L s.heap news) (T : Top p loose mean mg mb h₀) (hA : A.frames = some (env :: outer)) (hf : env.frame = some L) (hke : env.scope.kind = .function)
    (ho : K.lookup f = some ⟨oc, od, .func (fnOf name qual params body scope dV kV doc pm an cdv ct), osl⟩) (hcd : codeIn K cdv qual = true) (hroom : A.depth < recursionLimit)
    (hbind : BindsTo s (fnOf name qual params body scope dV kV doc pm an cdv ct) args binds) (hloc : ∀ y ∈ binds, scope.names.lookup y.1 = some .local)
    (h : ∀ g L' h₁, Stays news s.heap g → Fr h₀ L g m → Fr g L' h₁ (fun y => binds.reverse.lookup y) → News g L' h₁ news → Below A base (env :: outer) g → K.In g → Top p loose mean mg mb g → (∀ p ∈ news, p.1 < L') →
      wpAny (model prog w) (A.deeper (envOf qual scope L' f cdv)) (execs body (envOf qual scope L' f cdv))
        (fun fl s' => LeaveK h₀ L m g R (match fl with | .ret v => v | _ => .none) s')
        (fun e s' => wpAny (model prog w) (A.deeper (envOf qual scope L' f cdv)) (leaving (envOf qual scope L' f cdv) e) (fun _ s'' => R (.error e) s'') (fun e' s'' => R (.error e') s'') s')
        { s with heap := h₁, toks := s.toks + binds.length })
    (hco : scope.isCoroutine = false) (hgen : scope.isGenerator = false) (hk : scope.kind = .function)
    (hcell : ∀ x ∈ scope.names, x.2 ≠ .cell) : codeAny (model prog w) A (.call (.ref f) args) R s := by
  obtain ⟨FG, BG, st, lv⟩ := groundX (R := R) B F N hA hf hke
  have Xs := X₀.keeps F.keep
  refine codeAny_call_def (fd := fnOf name qual params body scope dV kV doc pm an cdv ct) (body := body) (binds := binds) hroom (Xs _ _ ho) rfl (T.nolimit.keeps F.keep) (codeRec_of Xs hcd) rfl hbind hcell hloc (fun h₁ hns hk₁ => ?_) hco hgen hk
  refine wpAny_mono (h _ s.heap.objs.size h₁ stays_hide FG ⟨hns, fun b o e => hk₁ b o (of_hideAll _ e), Nat.le_of_eq (hideAll_size _ _)⟩ ?_ BG (X₀.keeps st) (T.keeps st) fun p hp => Heap.lt_size (N p hp).1) (fun fl s' hl => lv _ _ hl) fun _ _ y => y
  exact fun p hp => ⟨hk₁ _ _ (N p hp).1, Nat.ne_of_lt (Heap.lt_size (N p hp).1), hideAll_none _ (List.mem_map_of_mem hp)⟩
end

/-- what a call of f on vs does, from a ledger pre: it comes back with r and a ledger led; all else stays -/
def CallOk (prog : Program) (w : World) (p : Program) (loose : List Str) (mean : ExcName → Option Value) (mg mb : Str → Option Value) (D U : Nat) (f : Value) (vs : List Value) (pre : Led) (post : Value → Led → Prop) : Prop :=
  ∀ (dp un : Nat) (gd : Option (List Code)) (env : Env) (outer : List Env) (A₀ : Around) (base h₀ : Heap) (L : Addr) (m : Str → Option Value) (s : Shared) (Q E : Value → Shared → Prop),
    Below A₀ base outer h₀ → Fr h₀ L s.heap m → (hd.heap_39 w.params).In h₀ → News h₀ L s.heap pre → Top p loose mean mg mb h₀ → env.frame = some L → env.scope.kind = .function → dp + D < recursionLimit → un + U < cLine →
    (∀ r led h' tk', Fr h₀ L h' m → News h₀ L h' led → Back pre led s.heap h' → post r led → Q r { s with heap := h', toks := tk' }) →
    wpAny (model prog w) (TopA dp un gd env outer) (call f vs) Q E s

/-- a part of a ledger, and the rest -/
inductive Part : Led → Led → Led → Prop
  | nil : Part [] [] []
  | take {x r m o} : Part r m o → Part (x :: r) (x :: m) o
  | skip {x r m o} : Part r m o → Part (x :: r) m (x :: o)
  | rest {r} : Part r [] r
theorem Part.mem {r m o : Led} (h : Part r m o) : (∀ p ∈ m, p ∈ r) ∧ (∀ p ∈ o, p ∈ r) := by
  induction h with
  | nil => exact ⟨fun _ h => h, fun _ h => h⟩
  | take _ ih => exact ⟨fun p hp => by rcases List.mem_cons.mp hp with rfl | h; exact .head _; exact .tail _ (ih.1 p h), fun p hp => .tail _ (ih.2 p hp)⟩
  | skip _ ih => exact ⟨fun p hp => .tail _ (ih.1 p hp), fun p hp => by rcases List.mem_cons.mp hp with rfl | h; exact .head _; exact .tail _ (ih.2 p h)⟩
  | rest => exact ⟨fun _ h => (nomatch h), fun _ h => h⟩
/-- no address of one stands in the other -/
def Apart : Led → Led → Prop
  | [], _ => True
  | x :: r, l => (∀ p ∈ l, p.1 ≠ x.1) ∧ Apart r l
theorem Apart.of {l : Led} : ∀ {o : Led}, (∀ x ∈ o, ∀ p ∈ l, p.1 ≠ x.1) → Apart o l
  | [], _ => trivial
  | x :: _, h => ⟨h x (.head _), Apart.of fun y hy => h y (.tail _ hy)⟩
theorem Apart.out {l : Led} : ∀ {o : Led}, Apart o l → ∀ x ∈ o, ∀ p ∈ l, p.1 ≠ x.1
  | [], _, _, hx => nomatch hx
  | y :: r, h, x, hx => by
    rcases List.mem_cons.mp hx with e | hx
    · rw [e]; exact h.1
    · exact Apart.out h.2 x hx
theorem apart_nil : ∀ o : Led, Apart o []
  | [] => trivial
  | _ :: r => ⟨fun _ h => (nomatch h), apart_nil r⟩
theorem apart_own {own pre : Led} {adr : List Addr} (h : OwnOff own adr) (hm : ∀ p ∈ pre, p.1 ∈ adr) : Apart own pre :=
  Apart.of fun x hx p hp e => h x hx p.1 (hm p hp) e.symm
theorem CallOk.use {prog : Program} {w : World} {p : Program} {loose : List Str} {mean : ExcName → Option Value} {mg mb : Str → Option Value} {D U : Nat} {f : Value} {vs : List Value} {pre : Led} {post : Value → Led → Prop}
    (C : CallOk prog w p loose mean mg mb D U f vs pre post)
    {dp un : Nat} {gd : Option (List Code)} {env : Env} {outer : List Env} {A₀ : Around} {base h₀ : Heap} {L : Addr} {m : Str → Option Value} {s : Shared} {Q E : Value → Shared → Prop} {news others : Led}
    (B : Below A₀ base outer h₀) (F : Fr h₀ L s.heap m) (X : (hd.heap_39 w.params).In h₀) (N : News h₀ L s.heap news) (T : Top p loose mean mg mb h₀) (hf : env.frame = some L) (hk : env.scope.kind = .function) (hd : dp + D < recursionLimit) (hu : un + U < cLine)
    (P : Part news pre others) (hap : Apart others pre)
    (h : ∀ r led h' tk', Fr h₀ L h' m → News h₀ L h' (led ++ others) → Back pre led s.heap h' → Apart others led → post r led → Q r { s with heap := h', toks := tk' }) :
    wpAny (model prog w) (TopA dp un gd env outer) (call f vs) Q E s := by
  obtain ⟨P1, P2⟩ := P.mem
  have hap' := hap.out
  refine C _ _ _ _ _ _ _ _ _ _ _ _ _ B F X (fun q hq => N q (P1 q hq)) T hf hk hd hu fun r led h' tk' F' N' b po => h r led h' tk' F' (fun q hq => ?_) b ?_ po
  · rcases List.mem_append.mp hq with hq | hq
    · exact N' q hq
    · exact ⟨b.keep _ _ (N q (P2 q hq)).1 (hap' q hq), (N q (P2 q hq)).2⟩
  · exact Apart.of fun x hx p hp => b.new p hp x.1 x.2 (N x (P2 x hx)).1 (hap' x hx)
end PBase
section PLoops
open PySem PySem.W PySem.Calls PySem.Spec PyProof.Rows
section
variable {prog : Program} {w : World} {A : Around} {E : Value → Shared → Prop} {s : Shared} {env : Env} {h₀ : Heap} {x : Str} {body : List Stmt} {Q : Flow → Shared → Prop}
/-- a range by ones, upward: an invariant by the turn's number -/
theorem iter_rangeI {r : Addr} {a₀ b₀ : Int} {t₀ u₀ v₀ : Tok} {n : Nat} {m₀ : Str → Option Value} {news : Led} (J : Nat → (Str → Option Value) → Led → Prop)
    (hh : A.handled = none) (hr : IsRange s.heap r a₀ b₀ 1 t₀ u₀ v₀) (hsmall : Builtin.Range.small a₀ b₀ 1 = true) (hn : Builtin.Range.rangeSize a₀ b₀ 1 = (n : Int)) (F : Fr h₀ env.locals s.heap m₀) (N : News h₀ env.locals s.heap news) (hj : J 0 m₀ news)
    (turn : ∀ i t m₁ news₁ h tk own, i < n → news₁.map (·.1) = news.map (·.1) → OwnOff own (news.map (·.1)) → J i m₁ news₁ → Fr h₀ env.locals h (fun y => if y = x then some (.int (a₀ + (i : Int)) t) else m₁ y) → News h₀ env.locals h (news₁ ++ own) →
      wpAny (model prog w) A (execs body env) (InvPostN h₀ env.locals (J (i + 1)) own (news.map (·.1)) { s with heap := h, toks := tk } Q) E { s with heap := h, toks := tk })
    (done : ∀ m₁ nx h tk, J n m₁ nx → Fr h₀ env.locals h m₁ → News h₀ env.locals h nx → Q .next { s with heap := h, toks := tk }) :
    wpAny (model prog w) A (pyIter (.ref r)) (fun it s₂ => LoopAtV prog w A h₀ env x body Q E it s₂) E s := by
  refine wpAny_pyIter_range hr hsmall ?_
  have W : Walks prog w A s.heap.objs.size [s.heap.objs.size] [s.heap.objs.size] n (fun i v => i < n ∧ ∃ t, v = .int (a₀ + i * 1) t)
      (fun i h => IsRangeIter h s.heap.objs.size (a₀ + (i : Nat) * 1) ((n : Int) - (i : Nat)) 1) := (Walks.range hh _ a₀ 1 n).bound
  have off : ∀ p ∈ news, p.1 ∉ [s.heap.objs.size] := fun p hp hI => absurd (Heap.lt_size (N p hp).1) ((List.mem_singleton.mp hI) ▸ Nat.lt_irrefl _)
  refine loop_invN J W (fun hm => absurd F.ns.lt ((List.mem_singleton.mp hm) ▸ Nat.lt_irrefl _)) (fun b hb => ?_) off off (by show IsRangeIter _ _ _ _ _; rw [hn]; simpa using Heap.get?_push_size _ rfl) (F.push _) (fun p hp => ⟨Heap.get?_push_of_some _ (N p hp).1, (N p hp).2⟩) hj ?_ done
  · rw [List.mem_singleton.mp hb]
    exact next_is_new F
  · rintro i v m₁ news₁ h tk own hi ⟨_, t, rfl⟩ h1 h2 h3 F₁ N₁
    rw [Int.mul_one] at F₁
    exact turn i t m₁ news₁ h tk own hi h1 h2 h3 F₁ N₁
/-- a range's loop that stores nothing -/
theorem iter_rangeP {r : Addr} {a₀ b₀ : Int} {t₀ u₀ v₀ : Tok} {n : Nat} {m₀ : Str → Option Value} {news : Led} (P : Nat → Prop)
    (hh : A.handled = none) (hr : IsRange s.heap r a₀ b₀ 1 t₀ u₀ v₀) (hsmall : Builtin.Range.small a₀ b₀ 1 = true) (hn : Builtin.Range.rangeSize a₀ b₀ 1 = (n : Int)) (F : Fr h₀ env.locals s.heap m₀) (N : News h₀ env.locals s.heap news) (hj : P 0)
    (turn : ∀ i t h tk own, i < n → OwnOff own (news.map (·.1)) → P i → Fr h₀ env.locals h (fun y => if y = x then some (.int (a₀ + (i : Int)) t) else m₀ y) → News h₀ env.locals h (news ++ own) →
      wpAny (model prog w) A (execs body env) (InvPostN h₀ env.locals (fun m' nx => nx = news ∧ (∀ z, z ≠ x → m' z = m₀ z) ∧ P (i + 1)) own (news.map (·.1)) { s with heap := h, toks := tk } Q) E { s with heap := h, toks := tk })
    (done : ∀ (u : Str → Option Value) h tk, P n → Fr h₀ env.locals h (fun z => if z = x then u z else m₀ z) → News h₀ env.locals h news → Q .next { s with heap := h, toks := tk }) :
    wpAny (model prog w) A (pyIter (.ref r)) (fun it s₂ => LoopAtV prog w A h₀ env x body Q E it s₂) E s := by
  refine iter_rangeI (fun i m nx => nx = news ∧ (∀ z, z ≠ x → m z = m₀ z) ∧ P i) hh hr hsmall hn F N ⟨rfl, fun _ _ => rfl, hj⟩ ?_ ?_
  · rintro i t m₁ news₁ h tk own hi _ h2 ⟨rfl, hm, hp⟩ F₁ N₁
    rw [map_none hm] at F₁
    exact turn i t h tk own hi h2 hp F₁ N₁
  · rintro m₁ nx h tk ⟨rfl, hm, hp⟩ F₁ N₁
    refine done m₁ h tk hp ?_ N₁
    rw [done_none hm]; exact F₁
theorem rangeSize_up (a b : Int) : Builtin.Range.rangeSize a b 1 = ((b - a).toNat : Int) := by
  unfold Builtin.Range.rangeSize
  rw [if_pos (by decide), Int.ediv_one]
  split <;> omega
end
end PLoops
section PBase2
open PySem PySem.W PySem.Calls PySem.Spec PyProof.Rows
theorem News.take1 {h₀ h : Heap} {L : Addr} {a : Addr × Obj} {r : Led} (N : News h₀ L h (a :: r)) : News h₀ L h [a] := fun p hp => N p (by
  rcases List.mem_cons.mp hp with rfl | hp
  · exact .head _
  · cases hp)
theorem News.take2 {h₀ h : Heap} {L : Addr} {a b : Addr × Obj} {r : Led} (N : News h₀ L h (a :: b :: r)) : News h₀ L h [a, b] := fun p hp => N p (by
  rcases List.mem_cons.mp hp with rfl | hp
  · exact .head _
  · rcases List.mem_cons.mp hp with rfl | hp
    · exact .tail _ (.head _)
    · cases hp)
theorem News.sub {h₀ h : Heap} {L : Addr} {l r : Led} (N : News h₀ L h r) (hs : ∀ p ∈ l, p ∈ r) : News h₀ L h l := fun p hp => N p (hs p hp)
theorem Back.sub {pre led led' : Led} {h h' : Heap} (b : Back pre led h h') (hs : ∀ p ∈ led', p ∈ led) : Back pre led' h h' := ⟨b.keep, fun q hq => b.new q (hs q hq)⟩
theorem Back.take2 {pre r : Led} {h h' : Heap} {a b : Addr × Obj} (k : Back pre (a :: b :: r) h h') : Back pre [a, b] h h' := k.sub fun p hp => by
  rcases List.mem_cons.mp hp with rfl | hp
  · exact .head _
  · rcases List.mem_cons.mp hp with rfl | hp
    · exact .tail _ (.head _)
    · cases hp
section
variable {prog : Program} {w : World} {A A₀ : Around} {s : Shared} {K : Frag} {L : Addr} {h₀ base : Heap} {m mg mb : Str → Option Value} {news : Led} {p : Program} {loose : List Str} {mean : ExcName → Option Value}
/-- a def's body entered, some of its names captured, with what is known of the heap that it finds -/
theorem code_hereC {env : Env} {outer : List Env} {R : Result → Shared → Prop} {name qual : Str} {params : Arguments} {body : List Stmt} {scope : Scope} {dV kV doc pm cdv ct oc : Value} {an od : Option Addr} {osl : Array (Option Value)} {f : Addr} {args : Args} {binds : List (Str × Value)}
    (B : Below A₀ base outer h₀) (F : Fr h₀ L s.heap m) (X₀ : K.In h₀) (N : News h₀ L s.heap news) (T : Top p loose mean mg mb h₀) (hA : A.frames = some (env :: outer)) (hf : env.frame = some L) (hke : env.scope.kind = .function)
    (ho : K.lookup f = some ⟨oc, od, .func (fnOf name qual params body scope dV kV doc pm an cdv ct), osl⟩) (hcd : codeIn K cdv qual = true) (hroom : A.depth < recursionLimit)
    (hbind : BindsTo s (fnOf name qual params body scope dV kV doc pm an cdv ct) args binds) (hkind : (binds.all fun y => scope.names.lookup y.1 == some .local || scope.names.lookup y.1 == some .cell) = true)
    (hnd : ((cellsFrom 0 scope.names []).map (·.1)).Nodup)
    (h : ∀ g L' h₁ tk cells, Stays news s.heap g → Fr h₀ L g m → Fr g L' h₁ (bindL (envOfC qual scope L' f cdv).kindOf binds fun _ => none) → News g L' h₁ (cells ++ news) →
      CellsAre (bindC (envOfC qual scope L' f cdv).kindOf binds fun _ => none) (cellsFrom (L' + 1) scope.names []) cells → Below A base (env :: outer) g → K.In g → Top p loose mean mg mb g → (∀ p ∈ news, p.1 < L') →
      wpAny (model prog w) (A.deeper (envOfC qual scope L' f cdv)) (execs body (envOfC qual scope L' f cdv))
        (fun fl s' => LeaveK h₀ L m g R (match fl with | .ret v => v | _ => .none) s')
        (fun e s' => wpAny (model prog w) (A.deeper (envOfC qual scope L' f cdv)) (leaving (envOfC qual scope L' f cdv) e) (fun _ s'' => R (.error e) s'') (fun e' s'' => R (.error e') s'') s')
        { s with heap := h₁, toks := tk })
    (hco : scope.isCoroutine = false) (hgen : scope.isGenerator = false) (hk : scope.kind = .function) : codeAny (model prog w) A (.call (.ref f) args) R s := by
  obtain ⟨FG, BG, st, lv⟩ := groundX (R := R) B F N hA hf hke
  have Xs := X₀.keeps F.keep
  refine codeAny_call_function hroom (Xs _ _ ho) rfl hco hgen rfl (codeRec_of Xs hcd) (hbind _ _ _ _ (wpAny_newFunctionEnv_cells hk (kindsX hkind _) fun env' he s' x => ?_))
  cases he
  refine ⟨(T.nolimit.keeps F.keep).keeps x.toInCall.keep, codeAny_func ?_⟩
  obtain ⟨h₁, tk, rfl, _⟩ := x.done
  have old := x.toInCall.keep
  obtain ⟨cells, NC, Y⟩ := Cl.news (h₀ := s.heap) (Nat.le_refl _) fun n c hm => ⟨x.cell n c (lookup_of_mem_nodup (cellsFrom_names scope.names 0 (s.heap.objs.size + 1) [] [] rfl ▸ hnd) hm), x.above n c hm⟩
  refine wpAny_mono (h _ s.heap.objs.size h₁ tk cells stays_hide FG ⟨x.toInCall.ns, fun b o e => old b o (of_hideAll _ e), Nat.le_of_eq (hideAll_size _ _)⟩ (fun q hq => ?_) Y BG (X₀.keeps st) (T.keeps st) fun q hq => Heap.lt_size (N q hq).1) (fun _ _ hl => lv _ _ hl) fun _ _ y => y
  rcases List.mem_append.mp hq with hq | hq
  · have n := NC q hq
    refine ⟨n.1, n.2.1, ?_⟩
    cases e : (hideAll s.heap (news.map (·.1))).get? q.1 with
    | none => rfl
    | some o => exact absurd (of_hideAll _ e) (by rw [n.2.2]; nofun)
  · have n := N q hq
    exact ⟨old _ _ n.1, Nat.ne_of_lt (Heap.lt_size n.1), hideAll_none _ (List.mem_map_of_mem hq)⟩
end
def OffN (a : Addr) : Led → Prop
  | [] => True
  | p :: r => (@Ne Nat p.1 a) ∧ OffN a r
theorem offN_of {a : Addr} : ∀ {l : Led}, (∀ p ∈ l, p.1 ≠ a) → OffN a l
  | [], _ => trivial
  | p :: _, h => ⟨h p (.head _), offN_of fun q hq => h q (.tail _ hq)⟩
def ApartN : Led → Led → Prop
  | [], _ => True
  | x :: r, l => OffN x.1 l ∧ ApartN r l
theorem apartN_of {l : Led} : ∀ {o : Led}, Apart o l → ApartN o l
  | [], _ => trivial
  | _ :: _, h => ⟨offN_of h.1, apartN_of h.2⟩
/-- a call that gives its ledger back as it was: what it asks is a part of the ledger, in any order -/
theorem CallOk.useR {prog : Program} {w : World} {p : Program} {loose : List Str} {mean : ExcName → Option Value} {mg mb : Str → Option Value} {D U : Nat} {f : Value} {vs : List Value} {pre : Led} {post : Value → Prop}
    (C : CallOk prog w p loose mean mg mb D U f vs pre (fun r led => led = pre ∧ post r))
    {dp un : Nat} {gd : Option (List Code)} {env : Env} {outer : List Env} {A₀ : Around} {base h₀ : Heap} {L : Addr} {m : Str → Option Value} {s : Shared} {Q E : Value → Shared → Prop} {news : Led}
    (B : Below A₀ base outer h₀) (F : Fr h₀ L s.heap m) (X : (hd.heap_39 w.params).In h₀) (N : News h₀ L s.heap news) (T : Top p loose mean mg mb h₀) (hf : env.frame = some L) (hk : env.scope.kind = .function) (hd : dp + D < recursionLimit) (hu : un + U < cLine)
    (P : ∀ q ∈ pre, q ∈ news)
    (h : ∀ r h' tk', Fr h₀ L h' m → News h₀ L h' news → post r → Q r { s with heap := h', toks := tk' }) :
    wpAny (model prog w) (TopA dp un gd env outer) (call f vs) Q E s := by
  refine C _ _ _ _ _ _ _ _ _ _ _ _ _ B F X (fun q hq => N q (P q hq)) T hf hk hd hu fun r led h' tk' F' N' b po => h r h' tk' F' (fun q hq => ?_) po.2
  by_cases hq' : ∀ p ∈ pre, p.1 ≠ q.1
  · exact ⟨b.keep _ _ (N q hq).1 hq', (N q hq).2⟩
  · obtain ⟨p, hp, e⟩ : ∃ p ∈ pre, p.1 = q.1 := by
      refine Classical.byContradiction fun hn => hq' fun p hp e => hn ⟨p, hp, e⟩
    have hpn := N p (P p hp)
    have hqn := N q hq
    have e2 : p.2 = q.2 := Option.some.inj (hpn.1.symm.trans (e ▸ hqn.1))
    have : p = q := Prod.ext e e2
    subst this
    exact N' p (po.1 ▸ hp)
end PBase2
section PLiesAt
/-- the octets' numbers -/
abbrev Oct := List Int
def liesAt (o x : Oct) (i : Nat) : Bool := decide ((o.drop i).take x.length = x)
theorem bInts_inj {a b : Array UInt8} (h : KBw.bInts a = KBw.bInts b) : a = b := by
  unfold KBw.bInts at h
  exact Array.toList_inj.mp ((List.map_inj_right (fun x y hxy => UInt8.toNat_inj.mp (by omega))).mp h)
theorem eq_dec {a b : Array UInt8} : (a.toList == b.toList) = decide (KBw.bInts a = KBw.bInts b) := by
  rw [Bool.eq_iff_iff]
  simp only [beq_iff_eq, decide_eq_true_eq]
  constructor
  · intro h; rw [Array.toList_inj.mp h]
  · intro h; rw [bInts_inj h]
theorem cut_eq {os : Oct} {i : Int} {n : Nat} (h0 : 0 ≤ i) : (os.drop (clipAt os.length i)).take (clipAt os.length (i + (n : Int)) - clipAt os.length i) = (os.drop i.toNat).take n := by
  have e1 : clipAt os.length i = min i.toNat os.length := by
    conv => lhs; rw [← Int.toNat_of_nonneg h0]
    rw [clipAt_nat]
  have e2 : clipAt os.length (i + (n : Int)) = min (i.toNat + n) os.length := by
    have : i + (n : Int) = ((i.toNat + n : Nat) : Int) := by omega
    rw [this, clipAt_nat]
  rw [e1, e2]
  by_cases hlt : i.toNat ≤ os.length
  · rw [Nat.min_eq_left hlt]
    rcases Nat.le_total (i.toNat + n) os.length with h | h
    · rw [Nat.min_eq_left h, show i.toNat + n - i.toNat = n by omega]
    · rw [Nat.min_eq_right h]
      rw [List.take_of_length_le (by rw [List.length_drop]; omega), List.take_of_length_le (by rw [List.length_drop]; omega)]
  · rw [Nat.min_eq_right (by omega), Nat.min_eq_right (by omega)]
    simp [List.drop_eq_nil_of_le (show os.length ≤ i.toNat by omega)]
end PLiesAt
section PFirstAt
/-- the first place -/
def firstI (o x : Oct) : Int := ((List.range o.length).find? (liesAt o x)).elim (-1) (fun i => (i : Int))
theorem firstI_at {o x : Oct} {i : Nat} (hi : i < o.length) (h : ∀ j, j < i → liesAt o x j = false) (hl : liesAt o x i = true) : firstI o x = (i : Int) := by
  have : (List.range o.length).find? (liesAt o x) = some i := by
    rw [List.find?_range_eq_some]
    exact ⟨hl, List.mem_range.mpr hi, fun j hj => by simp [h j hj]⟩
  rw [firstI, this]; rfl
theorem firstI_none {o x : Oct} (h : ∀ j, j < o.length → liesAt o x j = false) : firstI o x = -1 := by
  have : (List.range o.length).find? (liesAt o x) = none := by
    rw [List.find?_eq_none]
    intro j hj
    simp [h j (List.mem_range.mp hj)]
  rw [firstI, this]; rfl
end PFirstAt
section PStretch
/-- octets or none -/
inductive OV : Option Oct → Value → Prop
  | none : OV none .none
  | some {b : Array UInt8} {t : Tok} {ks : Oct} : KBw.bInts b = ks → 0 < ks.length → ks.length ≤ 64 → OV (some ks) (.bytes b t)
def beginOf (o : Oct) : Option Oct → Int
  | none => 0
  | some x => if firstI o x < 0 then (o.length : Int) else firstI o x + (x.length : Int)
def endOf (o : Oct) : Option Oct → Int
  | none => (o.length : Int)
  | some x => if firstI o x < 0 then (o.length : Int) else firstI o x
theorem int_eq {a b : Int} {t : Tok} (h : a = b) : ∃ t', Value.int a t = Value.int b t' := ⟨t, by rw [h]⟩
end PStretch
section PSeek
inductive Kd where
  | chars
  | all
  | lead
  | first
  deriving DecidableEq
def kdStr : Kd → Str
  | .chars => Str.ofString "CHARACTERS"
  | .all => Str.ofString "ALL"
  | .lead => Str.ofString "LEADING"
  | .first => Str.ofString "FIRST"
theorem kd_chars {k : Kd} : (kdStr k == Str.ofString "CHARACTERS") = decide (k = .chars) := by cases k <;> decide +kernel
theorem kd_lead {k : Kd} : (kdStr k == Str.ofString "LEADING") = decide (k = .lead) := by cases k <;> decide +kernel
theorem kd_first {k : Kd} : (kdStr k == Str.ofString "FIRST") = decide (k = .first) := by cases k <;> decide +kernel
def width : Kd → Oct → Int
  | .chars, _ => 1
  | _, x => (x.length : Int)
theorem width_oct {k : Kd} {x : Oct} (h : k ≠ .chars) : width k x = (x.length : Int) := by
  cases k <;> first | exact absurd rfl h | rfl
inductive WV : Kd → Oct → Value → Prop
  | chars {x : Oct} : WV .chars x .none
  | oct {k : Kd} {b : Array UInt8} {t : Tok} {x : Oct} : k ≠ .chars → KBw.bInts b = x → 0 < x.length → x.length ≤ 64 → WV k x (.bytes b t)
inductive LV : Option Int → Value → Prop
  | none : LV none .none
  | some {i : Int} {t : Tok} : LV (some i) (.int i t)
theorem WV.el {k : Kd} {x : Oct} {v : Value} (h : WV k x v) : (v = Value.none ∧ k = Kd.chars) ∨ ∃ b t, v = .bytes b t ∧ k ≠ .chars ∧ KBw.bInts b = x ∧ 0 < x.length ∧ x.length ≤ 64 := by
  cases h with
  | chars => exact .inl ⟨rfl, rfl⟩
  | oct a b c d => exact .inr ⟨_, _, rfl, a, b, c, d⟩
theorem LV.el {i : Option Int} {v : Value} (h : LV i v) : (v = Value.none ∧ i = Option.none) ∨ ∃ j t, v = Value.int j t ∧ i = Option.some j := by
  cases h with
  | none => exact .inl ⟨rfl, rfl⟩
  | some => exact .inr ⟨_, _, rfl, rfl⟩
theorem width_pos {k : Kd} {x : Oct} {v : Value} (h : WV k x v) : 1 ≤ width k x ∧ width k x ≤ 64 := by
  cases h with
  | chars => exact ⟨Int.le_refl 1, show (1 : Int) ≤ 64 by decide⟩
  | oct hk hb h0 h1 => rw [width_oct hk]; omega
/-- a Seeker's dict -/
abbrev skObj (P : Params) (u1 u2 u3 u4 u5 u6 : Tok) (vk vw vb ve vl vd : Value) : Obj :=
  dictOf [⟨PyData.keyHash P (Str.ofString "kind"), .str (Str.ofString "kind") u1, vk⟩, ⟨PyData.keyHash P (Str.ofString "wanted"), .str (Str.ofString "wanted") u2, vw⟩, ⟨PyData.keyHash P (Str.ofString "begin"), .str (Str.ofString "begin") u3, vb⟩, ⟨PyData.keyHash P (Str.ofString "end"), .str (Str.ofString "end") u4, ve⟩, ⟨PyData.keyHash P (Str.ofString "lead"), .str (Str.ofString "lead") u5, vl⟩, ⟨PyData.keyHash P (Str.ofString "is_done"), .str (Str.ofString "is_done") u6, vd⟩] 6
def reachL (b e : Int) (lead : Option Int) (i : Int) : Option Int := match lead with
  | none => if b ≤ i ∧ i < e then some i else none
  | some j => some j
def fitB (o : Oct) (k : Kd) (x : Oct) (b e : Int) (lead : Option Int) (done : Bool) (i : Int) : Bool :=
  !done && decide (b ≤ i) && decide (i + width k x ≤ e) && (decide (k = .chars) || ((decide (k ≠ .lead) || decide (lead = some i)) && liesAt o x i.toNat))
section
variable {o x : Oct} {k : Kd} {b e i j : Int} {lead : Option Int} {done : Bool}
theorem fit_done (h : done = true) : fitB o k x b e lead done i = false := by subst h; rfl
theorem fit_lo (h : ¬ b ≤ i) : fitB o k x b e lead done i = false := by simp [fitB, h]
theorem fit_hi (h : e < i + width k x) : fitB o k x b e lead done i = false := by simp [fitB, Int.not_le.mpr h]
theorem fit_chars (h1 : done = false) (h2 : b ≤ i) (h3 : ¬ e < i + width .chars x) : fitB o .chars x b e lead done i = true := by simp [fitB, h1, h2, Int.not_lt.mp h3]
theorem fit_lead0 (hk : (kdStr k == Str.ofString "LEADING") = true) : fitB o k x b e none done i = false := by
  have := of_decide_eq_true (kd_lead.symm.trans hk); subst this; simp [fitB]
theorem fit_lead1 (hk : (kdStr k == Str.ofString "LEADING") = true) (h : ¬ i = j) : fitB o k x b e (some j) done i = false := by
  have := of_decide_eq_true (kd_lead.symm.trans hk); subst this; simp [fitB, Ne.symm h]
theorem fit_lead2 (hk : (kdStr k == Str.ofString "LEADING") = true) (h : i = j) (h1 : done = false) (h2 : b ≤ i) (h3 : ¬ e < i + width k x) : fitB o k x b e (some j) done i = liesAt o x i.toNat := by
  have := of_decide_eq_true (kd_lead.symm.trans hk); subst this; simp [fitB, h, h1, Int.not_lt.mp (h ▸ h3), h ▸ h2]
theorem fit_other (hk : (kdStr k == Str.ofString "LEADING") = false) (hc : k ≠ .chars) (h1 : done = false) (h2 : b ≤ i) (h3 : ¬ e < i + width k x) : fitB o k x b e lead done i = liesAt o x i.toNat := by
  have := of_decide_eq_false (kd_lead.symm.trans hk); simp [fitB, this, hc, h1, h2, Int.not_lt.mp h3]
end
end PSeek
section PDrawDef
open PySem PySem.W PySem.Calls PySem.Spec PyProof.Rows
section
variable {prog : Program} {w : World} {A : Around} {E : Value → Shared → Prop} {s : Shared} {Q : Value → Shared → Prop} {a b n : Int} {t u : Tok}
theorem pow_any (hn : 0 ≤ n) (hn2 : n ≤ 1000000) (h0 : 0 ≤ a) (h1 : a < 1000000000000000000) (h : ∀ z, Q (.int z s.toks) { s with toks := s.toks + 1 }) :
    wpAny (model prog w) A (binaryOp .Pow (.int a t) (.int n u)) Q E s := pow_int_small hn hn2 (by omega) (h _)
theorem mod_any (hb : 0 < b) (h : ∀ r, 0 ≤ r → r < b → Q (.int r s.toks) { s with toks := s.toks + 1 }) : wpAny (model prog w) A (binaryOp .Mod (.int a t) (.int b u)) Q E s :=
  PyProof.Rows.mod_int' (by omega) (h _ (Int.fmod_nonneg_of_pos _ hb) (Int.fmod_lt_of_pos _ hb))
theorem mul_rng (a0 : 0 ≤ a) (a1 : a ≤ 2200000000) (b0 : 0 ≤ b) (b1 : b ≤ 200000) (h : ∀ z, 0 ≤ z → z ≤ 440000000000000 → Q (.int z s.toks) { s with toks := s.toks + 1 }) : wpAny (model prog w) A (binaryOp .Mult (.int a t) (.int b u)) Q E s :=
  PyProof.Rows.mul_int (h _ (Int.mul_nonneg a0 b0) (Int.le_trans (Int.mul_le_mul a1 b1 b0 (by decide)) (by decide))) (IntMulOk.of_right (PyProof.Rows.intBits_le (by omega)))
theorem mul_lit (hl : Builtin.Int.intBits a ≤ 64) (h : Q (.int (a * b) s.toks) { s with toks := s.toks + 1 }) : wpAny (model prog w) A (binaryOp .Mult (.int a t) (.int b u)) Q E s :=
  PyProof.Rows.mul_int h (IntMulOk.of_left hl)
end
theorem draw_end {h₀ h' : Heap} {L pa ca : Addr} {m : Str → Option Value} {s : Shared} {Q : Value → Shared → Prop} {pre news : Led} {turn tn rs r many : Int} {u2 u3 t : Tok} {n1 tk' : Nat} {oc : Obj}
    (hret : ∀ r led h' tk', Fr h₀ L h' m → News h₀ L h' led → Back pre led s.heap h' → (∃ k t turn' rest' t2' t3', r = .int k t ∧ 0 ≤ k ∧ k < many ∧ 0 ≤ turn' ∧ turn' ≤ turn + 1 ∧ led = [(pa, listOf #[.ref ca, .int turn' t2', .int rest' t3'] n1), (ca, oc)]) → Q r { s with heap := h', toks := tk' })
    (F : Fr h₀ L h' m) (N : News h₀ L h' news) (k : Back pre news s.heap h') (m1 : (pa, listOf #[.ref ca, .int tn u2, .int rs u3] n1) ∈ news) (m2 : (ca, oc) ∈ news) (h0 : 0 ≤ turn) (h1 : 0 ≤ r) (h2 : r < many) (h3 : tn = turn ∨ tn = turn + 1) :
    Q (.int r t) { s with heap := h', toks := tk' } := by
  have hs : ∀ p ∈ [(pa, listOf #[.ref ca, .int tn u2, .int rs u3] n1), (ca, oc)], p ∈ news := fun p hp => by
    rcases List.mem_cons.mp hp with rfl | hp
    · exact m1
    · rcases List.mem_cons.mp hp with rfl | hp
      · exact m2
      · cases hp
  exact hret _ _ _ _ F (News.sub N hs) (k.sub hs) ⟨r, t, tn, rs, u2, u3, rfl, h1, h2, by omega, by omega, rfl⟩
end PDrawDef
section PPick
theorem getD_mem {l : List Int} {k : Int} (h0 : 0 ≤ k) (h1 : k < (l.length : Int)) : l.getD k.toNat 0 ∈ l := by
  have h : k.toNat < l.length := by omega
  rw [List.getD_eq_getElem?_getD, List.getElem?_eq_getElem h, Option.getD_some]
  exact List.getElem_mem h
end PPick
section PFitsDef
open PySem PySem.W PySem.Calls PySem.Spec PyProof.Rows
structure Sk where
  k : Kd
  x : Oct
  b : Int
  e : Int
  lead : Option Int
  done : Bool
def Sk.reach (i : Int) (s : Sk) : Sk := { s with lead := reachL s.b s.e s.lead i }
def Sk.fit (o : Oct) (i : Int) (s : Sk) : Bool := fitB o s.k s.x s.b s.e s.lead s.done i
def Sk.took (i : Int) (s : Sk) : Sk := { s with lead := some (i + width s.k s.x), done := decide (s.k = .first) }
/-- the row that takes the place, if one does -/
def takerOf (o : Oct) (i : Int) (l : List Sk) : Option Nat := l.findIdx? (Sk.fit o i)
def widthAt (l : List Sk) (n : Nat) : Int := (l[n]?).elim 1 fun s => width s.k s.x
def fitsF (o : Oct) : Nat → Int → List Sk → List (Int × Nat)
  | 0, _, _ => []
  | f + 1, i, l => if i < (o.length : Int) then
      match takerOf o i (l.map (Sk.reach i)) with
      | none => fitsF o f (i + 1) (l.map (Sk.reach i))
      | some n => (i, n) :: fitsF o f (i + widthAt l n) ((l.map (Sk.reach i)).modify n (Sk.took i))
    else []
theorem fitsF_out {o : Oct} {i : Int} {l : List Sk} (h : ¬ i < (o.length : Int)) : ∀ f, fitsF o f i l = []
  | 0 => rfl
  | _ + 1 => by rw [fitsF, if_neg h]
theorem fitsF_none {o : Oct} {i : Int} {l : List Sk} {f : Nat} (h : i < (o.length : Int)) (ht : takerOf o i (l.map (Sk.reach i)) = none) : fitsF o (f + 1) i l = fitsF o f (i + 1) (l.map (Sk.reach i)) := by
  rw [fitsF, if_pos h, ht]
theorem fitsF_some {o : Oct} {i : Int} {l : List Sk} {f n : Nat} (h : i < (o.length : Int)) (ht : takerOf o i (l.map (Sk.reach i)) = some n) :
    fitsF o (f + 1) i l = (i, n) :: fitsF o f (i + widthAt l n) ((l.map (Sk.reach i)).modify n (Sk.took i)) := by
  rw [fitsF, if_pos h, ht]
abbrev tupOf (vs : Array Value) (n : Nat) : Obj := { cls := .type "tuple", data := .seq vs n }
/-- the list's places and rows, each a pair of the ledger -/
inductive PairsIn (tl : Led) : List Value → List (Int × Nat) → Prop
  | nil : PairsIn tl [] []
  | cons {a : Addr} {i : Int} {n c : Nat} {t t' : Tok} {vs : List Value} {fs : List (Int × Nat)} : (a, tupOf #[.int i t, .int (n : Int) t'] c) ∈ tl → PairsIn tl vs fs → PairsIn tl (.ref a :: vs) ((i, n) :: fs)
theorem PairsIn.mono {tl tl' : Led} {vs : List Value} {fs : List (Int × Nat)} (h : PairsIn tl vs fs) (hs : ∀ p ∈ tl, p ∈ tl') : PairsIn tl' vs fs := by
  induction h with
  | nil => exact .nil
  | cons hm _ ih => exact .cons (hs _ hm) ih
theorem PairsIn.snoc {tl : Led} {a : Addr} {i : Int} {n c : Nat} {t t' : Tok} {vs : List Value} {fs : List (Int × Nat)} (h : PairsIn tl vs fs) :
    PairsIn ((a, tupOf #[.int i t, .int (n : Int) t'] c) :: tl) (vs ++ [.ref a]) (fs ++ [(i, n)]) := by
  induction h with
  | nil => exact .cons (.head _) .nil
  | cons hm _ ih => exact .cons (.tail _ hm) ih
theorem PairsIn.length {tl : Led} {vs : List Value} {fs : List (Int × Nat)} (h : PairsIn tl vs fs) : vs.length = fs.length := by
  induction h with
  | nil => rfl
  | cons _ _ ih => simp [ih]
theorem OwnOff.cons {a : Addr × Obj} {tl : Led} {adr : List Addr} (h : OwnOff tl adr) (ha : ∀ b ∈ adr, a.1 ≠ b) : OwnOff (a :: tl) adr := fun p hp b hb => by
  rcases List.mem_cons.mp hp with rfl | hp
  · exact ha b hb
  · exact h p hp b hb
theorem News.tail1 {h₀ h : Heap} {L : Addr} {a : Addr × Obj} {r : Led} (N : News h₀ L h (a :: r)) : News h₀ L h r := fun p hp => N p (.tail _ hp)
def TailOff (tl : Led) : Led → Prop
  | [] => True
  | q :: r => (∀ p ∈ tl, p.1 ≠ q.1) ∧ TailOff tl r
theorem TailOff.at {tl : Led} : ∀ {its : Led}, TailOff tl its → ∀ p ∈ tl, ∀ q ∈ its, p.1 ≠ q.1
  | [], _, _, _, _, h => nomatch h
  | _ :: _, x, p, hp, q, h => by
    rcases List.mem_cons.mp h with rfl | h
    · exact x.1 p hp
    · exact TailOff.at x.2 p hp q h
theorem lt_of_allLt {I : Addr} : ∀ {tl : Led}, AllLt I tl → ∀ p ∈ tl, p.1 < I
  | [], _, _, h => nomatch h
  | _ :: _, x, p, h => by
    rcases List.mem_cons.mp h with rfl | h
    · exact x.1
    · exact lt_of_allLt x.2 p h
theorem tail_two {I a b : Addr} {oa ob : Obj} {tl : Led} (h : AllLt I tl) (ha : I ≤ a) (hb : I ≤ b) : TailOff tl [(a, oa), (b, ob)] :=
  ⟨fun p hp e => absurd (lt_of_allLt h p hp) (Nat.not_lt.mpr (e ▸ ha)), fun p hp e => absurd (lt_of_allLt h p hp) (Nat.not_lt.mpr (e ▸ hb)), trivial⟩
theorem unrEnd_tail {h₀ : Heap} {L : Addr} {its : Led} {rest : (Str → Option Value) → Led → Prop} {s₁ : Shared} {h' : Heap} {tk : Nat} {m' : Str → Option Value} {all : Led} (l tl : Led) (F : Fr h₀ L h' m') (N : News h₀ L h' all)
    (hI : ∀ p ∈ its, p ∈ all) (hl : ∀ p ∈ l, p ∈ all) (ht : ∀ p ∈ tl, p ∈ all) (off : OffW its l) (offt : TailOff tl its) (r : rest m' (l ++ tl)) : UnrEndW h₀ L s₁ its rest { s₁ with heap := h', toks := tk } :=
  ⟨h', tk, m', l ++ tl, rfl, F, fun p hp => by
    rcases List.mem_append.mp hp with hp | hp
    · exact N p (hI p hp)
    · rcases List.mem_append.mp hp with hp | hp
      · exact N p (hl p hp)
      · exact N p (ht p hp), fun p hp q hq e => by
    rcases List.mem_append.mp hp with hp | hp
    · rcases off.at p hp q hq with h | h
      · exact h e
      · have h1 := (N _ (hl p hp)).1
        have h2 := (N _ (hI q hq)).1
        rw [e] at h1
        exact h (congrArg Obj.cls (Option.some.inj (h1.symm.trans h2)))
    · exact offt.at p hp q hq e, r⟩
section
variable {os xs : Oct} {i b e : Int} {k : Kd} {lead : Option Int} {done : Bool} {fuel : Nat} {fs total : List (Int × Nat)}
theorem step1_some (hi : i < (os.length : Int)) (hfu : (os.length : Int) - i ≤ fuel) (hs : fs ++ fitsF os fuel i [⟨k, xs, b, e, lead, done⟩] = total) (hf : fitB os k xs b e (reachL b e lead i) done i = true) (hw : 1 ≤ width k xs) :
    ∃ f : Nat, (os.length : Int) - (i + width k xs) ≤ f ∧ (fs ++ [(i, 0)]) ++ fitsF os f (i + width k xs) [⟨k, xs, b, e, some (i + width k xs), decide (k = .first)⟩] = total := by
  cases fuel with
  | zero => exfalso; omega
  | succ f =>
    refine ⟨f, by omega, ?_⟩
    rw [← hs, fitsF_some (n := 0) hi (by simp [takerOf, Sk.fit, Sk.reach, hf]), List.append_assoc]
    rfl
theorem step1_none (hi : i < (os.length : Int)) (hfu : (os.length : Int) - i ≤ fuel) (hs : fs ++ fitsF os fuel i [⟨k, xs, b, e, lead, done⟩] = total) (hf : fitB os k xs b e (reachL b e lead i) done i = false) :
    ∃ f : Nat, (os.length : Int) - (i + 1) ≤ f ∧ fs ++ fitsF os f (i + 1) [⟨k, xs, b, e, reachL b e lead i, done⟩] = total := by
  cases fuel with
  | zero => exfalso; omega
  | succ f =>
    refine ⟨f, by omega, ?_⟩
    rw [← hs, fitsF_none hi (by simp [takerOf, Sk.fit, Sk.reach, hf])]
    rfl
end
theorem fits_end {os : Oct} {i : Int} {l : List Sk} {fuel : Nat} {fs total : List (Int × Nat)} (hi : ¬ i < (os.length : Int)) (hs : fs ++ fitsF os fuel i l = total) : fs = total := by
  rw [fitsF_out hi, List.append_nil] at hs; exact hs
structure F1 where
  vs : List Value
  n : Nat
  tl : Led
  fs : List (Int × Nat)
  i : Int
  ti : Tok
  vl : Value
  lead : Option Int
  done : Bool
abbrev F1.led (fa x d sl : Addr) (n0 : Nat) (sk : Value → Value → Obj) (c : F1) : Led := (fa, listOf c.vs.toArray c.n) :: (x, instObj 163 d) :: (d, sk c.vl (.bool c.done)) :: (sl, listOf #[.ref x] n0) :: c.tl
abbrev F1.P (fa x d sl : Addr) (os : Oct) (k : Kd) (xs : Oct) (b e : Int) (total : List (Int × Nat)) (c : F1) : Prop :=
  0 ≤ c.i ∧ (c.vs.length : Int) ≤ c.i ∧ OwnOff c.tl [fa, x, d, sl] ∧ PairsIn c.tl c.vs c.fs ∧ LV c.lead c.vl ∧ ∃ fuel : Nat, (os.length : Int) - c.i ≤ fuel ∧ c.fs ++ fitsF os fuel c.i [⟨k, xs, b, e, c.lead, c.done⟩] = total
end PFitsDef
section PConstDef
open PySem PySem.W PySem.Calls PySem.Spec PyProof.Rows
inductive Opd where
  | text (o : Oct)
  | zero
  | space
  | high
def constL : Opd → Int → Oct
  | .text o, _ => o
  | .zero, n => List.replicate n.toNat 48
  | .space, n => List.replicate n.toNat 32
  | .high, n => List.replicate n.toNat 255
inductive OpO : Opd → Obj → Prop
  | text {b : Array UInt8} {t t' : Tok} {c : Nat} {o : Oct} : KBw.bInts b = o → 0 < o.length → o.length ≤ 64 → OpO (.text o) (tupOf #[.str (Str.ofString "text") t, .bytes b t'] c)
  | zero {t t' : Tok} {c : Nat} : OpO .zero (tupOf #[.str (Str.ofString "figure") t, .str (Str.ofString "ZERO") t'] c)
  | space {t t' : Tok} {c : Nat} : OpO .space (tupOf #[.str (Str.ofString "figure") t, .str (Str.ofString "SPACE") t'] c)
  | high {t t' : Tok} {c : Nat} : OpO .high (tupOf #[.str (Str.ofString "figure") t, .str (Str.ofString "HIGH") t'] c)
theorem constL_len {op : Opd} {o : Obj} (h : OpO op o) : 0 < (constL op 1).length ∧ (constL op 1).length ≤ 64 := by
  cases h with
  | text _ h0 h1 => exact ⟨h0, h1⟩
  | zero => exact ⟨by decide, by decide⟩
  | space => exact ⟨by decide, by decide⟩
  | high => exact ⟨by decide, by decide⟩
end PConstDef
section PEqBS
open PySem PySem.W PySem.Calls PySem.Spec PyProof.Rows
theorem sub_str_bytes : isSubtype (.type "str") (.type "bytes") = pure false := by rw [isSubtype_type]; kernel_rfl
open PyProof PySem.MeetsSeq in
theorem bytes_eq_str (b : Array UInt8) (t : Tok) (c : Str) (u : Tok) : Gives (Builtin.«bytes.__eq__» ⟨[.bytes b t, .str c u], []⟩) (.val (Value.notImplemented)) :=
  .of_wp fun M A E s Q h => by
    obtain ⟨hp, g, d, tk, os⟩ := s
    wp_walk
    refine wpAny_of_eq sub_str_bytes ?_
    wp_walk
    exact ⟨_, rfl, h⟩
open PyProof PySem.MeetsSeq in
theorem str_eq_bytes (b : Array UInt8) (t : Tok) (c : Str) (u : Tok) : Gives (Builtin.«str.__eq__» ⟨[.str c u, .bytes b t], []⟩) (.val (Value.notImplemented)) :=
  .of_wp fun M A E s Q h => by
    obtain ⟨hp, g, d, tk, os⟩ := s
    wp_walk
    exact ⟨_, rfl, h⟩
section
variable {A : Around} {s : Shared}
open PyProof PySem.MeetsSeq PySem.SeqAt
theorem rc_bytes_str (b : Array UInt8) (t : Tok) (c : Str) (u : Tok) : RcAt A s (.bytes b t) (.str c u) false := fun prog w E Q h =>
  rc_eq_decline_or (k := false) (typeIs_bytes s b t) (typeIs_str s c u) (by decide) sub_str_bytes FB.slot_bytes_eq F.slot_str_eq_refl
    (fun _ hq => call_gives FB.slot_bytes_eq (typeIs_bytes s b t) FB.entry_bytes_eq (FB.args_bytes_eq_2 _ _) (bytes_eq_str b t c u) hq)
    (fun _ hq => call_gives F.slot_str_eq_refl (typeIs_str s c u) F.entry_str_eq (F.args_str_eq_2 _ _) (str_eq_bytes b t c u) hq)
    (fun _ hq => wpAny_of_eq (rfl : isSame (.bytes b t) (.str c u) = pure false) hq) (.inl rfl) h
theorem eqAt_bytes_str (b : Array UInt8) (t : Tok) (c : Str) (u : Tok) : EqAt A s (.bytes b t) (.str c u) false := fun prog w E Q h => by
  unfold eqBool
  refine wpAny_holding ?_
  refine wpAny_ite_split (fun hab => absurd (eq_of_beq hab) nofun) (fun _ => ?_)
  exact wpAny_bind (rc_bytes_str b t c u prog w E _ (wpAny_truthy_bool h))
/-- an operand is not the item: they part at the first place -/
theorem eq_op_item {prog : Program} {w : World} {E : Value → Shared → Prop} {Q : Value → Shared → Prop} {a it : Addr} {o1 : Obj} {op : Opd} {tt ti : Tok} {v3 v4 v5 : Value} (ho : OpO op o1) (h1 : s.heap.get? a = some o1)
    (h2 : IsTup s.heap it #[.str (Str.ofString "ref") tt, .str (Str.ofString "I") ti, v3, v4, v5]) (hu : A.units < cLine) (h : Q (.bool false) s) :
    wpAny (model prog w) A (compareOp .Eq (.ref a) (.ref it)) Q E s := by
  have key : ∀ (x y : Value) (n : Nat) (e : Nat → Bool), o1 = tupOf #[x, y] n → EqAt A.in1 s x (.str (Str.ofString "ref") tt) (e 0) → EqAt A.in1 s y (.str (Str.ofString "I") ti) (e 1) → wpAny (model prog w) A (compareOp .Eq (.ref a) (.ref it)) Q E s := fun x y n e ho1 hx hy => by
    have ha : s.heap.IsTuple a #[x, y] := ⟨_, h1, by rw [ho1], n, by rw [ho1]⟩
    obtain ⟨ob, e1, e2, nb, e3⟩ := h2
    refine eq_tupleAt (e := e) ha ⟨ob, e1, e2, nb, e3⟩ hu (fun j q1 q2 => ?_) ?_
    · match j, q1 with
      | 0, _ => exact hx
      | 1, _ => exact hy
    · have : ((List.range (min (#[x, y] : Array Value).size (#[.str (Str.ofString "ref") tt, .str (Str.ofString "I") ti, v3, v4, v5] : Array Value).size)).all e && ((#[x, y] : Array Value).size == (#[.str (Str.ofString "ref") tt, .str (Str.ofString "I") ti, v3, v4, v5] : Array Value).size)) = false := by simp
      rw [this]; exact h
  cases ho with
  | text hb h0 h1 => exact key _ _ _ (fun j => if j = 0 then (Str.ofString "text" == Str.ofString "ref") else false) rfl (EqAt.str_str _ _ _ _) (eqAt_bytes_str _ _ _ _)
  | zero => exact key _ _ _ (fun j => if j = 0 then (Str.ofString "figure" == Str.ofString "ref") else (Str.ofString "ZERO" == Str.ofString "I")) rfl (EqAt.str_str _ _ _ _) (EqAt.str_str _ _ _ _)
  | space => exact key _ _ _ (fun j => if j = 0 then (Str.ofString "figure" == Str.ofString "ref") else (Str.ofString "SPACE" == Str.ofString "I")) rfl (EqAt.str_str _ _ _ _) (EqAt.str_str _ _ _ _)
  | high => exact key _ _ _ (fun j => if j = 0 then (Str.ofString "figure" == Str.ofString "ref") else (Str.ofString "HIGH" == Str.ofString "I")) rfl (EqAt.str_str _ _ _ _) (EqAt.str_str _ _ _ _)
end
end PEqBS
section PFits2Def
open PySem PySem.W PySem.Calls PySem.Spec PyProof.Rows
section
variable {os xs ys : Oct} {i b e b2 e2 : Int} {k k2 : Kd} {lead lead2 : Option Int} {done done2 : Bool} {fuel : Nat} {fs total : List (Int × Nat)}
theorem step2_fst (hi : i < (os.length : Int)) (hfu : (os.length : Int) - i ≤ fuel) (hs : fs ++ fitsF os fuel i [⟨k, xs, b, e, lead, done⟩, ⟨k2, ys, b2, e2, lead2, done2⟩] = total) (hf : fitB os k xs b e (reachL b e lead i) done i = true) (hw : 1 ≤ width k xs) :
    ∃ f : Nat, (os.length : Int) - (i + width k xs) ≤ f ∧ (fs ++ [(i, 0)]) ++ fitsF os f (i + width k xs) [⟨k, xs, b, e, some (i + width k xs), decide (k = .first)⟩, ⟨k2, ys, b2, e2, reachL b2 e2 lead2 i, done2⟩] = total := by
  cases fuel with
  | zero => exfalso; omega
  | succ f =>
    refine ⟨f, by omega, ?_⟩
    rw [← hs, fitsF_some (n := 0) hi (by simp [takerOf, Sk.fit, Sk.reach, hf, List.findIdx?_cons]), List.append_assoc]
    rfl
theorem step2_snd (hi : i < (os.length : Int)) (hfu : (os.length : Int) - i ≤ fuel) (hs : fs ++ fitsF os fuel i [⟨k, xs, b, e, lead, done⟩, ⟨k2, ys, b2, e2, lead2, done2⟩] = total) (hf : fitB os k xs b e (reachL b e lead i) done i = false) (hf2 : fitB os k2 ys b2 e2 (reachL b2 e2 lead2 i) done2 i = true) (hw : 1 ≤ width k2 ys) :
    ∃ f : Nat, (os.length : Int) - (i + width k2 ys) ≤ f ∧ (fs ++ [(i, 1)]) ++ fitsF os f (i + width k2 ys) [⟨k, xs, b, e, reachL b e lead i, done⟩, ⟨k2, ys, b2, e2, some (i + width k2 ys), decide (k2 = .first)⟩] = total := by
  cases fuel with
  | zero => exfalso; omega
  | succ f =>
    refine ⟨f, by omega, ?_⟩
    rw [← hs, fitsF_some (n := 1) hi (by simp [takerOf, Sk.fit, Sk.reach, hf, hf2, List.findIdx?_cons]), List.append_assoc]
    rfl
theorem step2_none (hi : i < (os.length : Int)) (hfu : (os.length : Int) - i ≤ fuel) (hs : fs ++ fitsF os fuel i [⟨k, xs, b, e, lead, done⟩, ⟨k2, ys, b2, e2, lead2, done2⟩] = total) (hf : fitB os k xs b e (reachL b e lead i) done i = false) (hf2 : fitB os k2 ys b2 e2 (reachL b2 e2 lead2 i) done2 i = false) :
    ∃ f : Nat, (os.length : Int) - (i + 1) ≤ f ∧ fs ++ fitsF os f (i + 1) [⟨k, xs, b, e, reachL b e lead i, done⟩, ⟨k2, ys, b2, e2, reachL b2 e2 lead2 i, done2⟩] = total := by
  cases fuel with
  | zero => exfalso; omega
  | succ f =>
    refine ⟨f, by omega, ?_⟩
    rw [← hs, fitsF_none hi (by simp [takerOf, Sk.fit, Sk.reach, hf, hf2, List.findIdx?_cons])]
    rfl
end
structure F2 where
  vs : List Value
  n : Nat
  tl : Led
  fs : List (Int × Nat)
  i : Int
  ti : Tok
  vl : Value
  lead : Option Int
  done : Bool
  vl2 : Value
  lead2 : Option Int
  done2 : Bool
abbrev F2.led (fa x d x2 d2 sl : Addr) (n0 : Nat) (sk sk2 : Value → Value → Obj) (c : F2) : Led := (fa, listOf c.vs.toArray c.n) :: (x, instObj 163 d) :: (d, sk c.vl (.bool c.done)) :: (x2, instObj 163 d2) :: (d2, sk2 c.vl2 (.bool c.done2)) :: (sl, listOf #[.ref x, .ref x2] n0) :: c.tl
abbrev F2.P (fa x d x2 d2 sl : Addr) (os : Oct) (k : Kd) (xs : Oct) (b e : Int) (k2 : Kd) (ys : Oct) (b2 e2 : Int) (total : List (Int × Nat)) (c : F2) : Prop :=
  0 ≤ c.i ∧ (c.vs.length : Int) ≤ c.i ∧ OwnOff c.tl [fa, x, d, x2, d2, sl] ∧ PairsIn c.tl c.vs c.fs ∧ LV c.lead c.vl ∧ LV c.lead2 c.vl2 ∧ ∃ fuel : Nat, (os.length : Int) - c.i ≤ fuel ∧ c.fs ++ fitsF os fuel c.i [⟨k, xs, b, e, c.lead, c.done⟩, ⟨k2, ys, b2, e2, c.lead2, c.done2⟩] = total
end PFits2Def
section PFitsLaw
open PySem PySem.W PySem.Calls PySem.Spec PyProof.Rows
def Sk.sh (s : Sk) : Kd × Oct × Int × Int := (s.k, s.x, s.b, s.e)
theorem sh_reach (i : Int) (l : List Sk) : (l.map (Sk.reach i)).map Sk.sh = l.map Sk.sh := by
  rw [List.map_map]; exact List.map_congr_left fun _ _ => rfl
theorem sh_took (i : Int) : ∀ (l : List Sk) (n : Nat), (l.modify n (Sk.took i)).map Sk.sh = l.map Sk.sh
  | [], n => by simp
  | s :: l, 0 => by simp [Sk.sh, Sk.took]
  | s :: l, n + 1 => by simp [sh_took i l n]
def wAt (l : List (Kd × Oct × Int × Int)) (n : Nat) : Int := (l[n]?).elim 1 fun t => width t.1 t.2.1
theorem widthAt_sh (l : List Sk) (n : Nat) : widthAt l n = wAt (l.map Sk.sh) n := by
  rw [widthAt, wAt, List.getElem?_map]
  cases l[n]? <;> rfl
theorem len_sh {l l' : List Sk} (h : l.map Sk.sh = l'.map Sk.sh) : l.length = l'.length := by simpa using congrArg List.length h
theorem taker_fit {o : Oct} {i : Int} {l : List Sk} {n : Nat} (h : takerOf o i l = some n) : ∃ s, l[n]? = some s ∧ s.fit o i = true := by
  rw [takerOf, List.findIdx?_eq_some_iff_getElem] at h
  obtain ⟨hn, hf, _⟩ := h
  exact ⟨l[n], List.getElem?_eq_getElem hn, hf⟩
theorem fit_in {o : Oct} {s : Sk} {i : Int} (h : s.fit o i = true) : s.b ≤ i ∧ i + width s.k s.x ≤ s.e := by
  simp only [Sk.fit, fitB, Bool.and_eq_true, decide_eq_true_eq] at h
  exact ⟨h.1.1.2, h.1.2⟩
theorem fitsF_mem {o : Oct} (sh : List (Kd × Oct × Int × Int)) (he : ∀ t ∈ sh, t.2.2.2 ≤ (o.length : Int)) (hw : ∀ t ∈ sh, 1 ≤ width t.1 t.2.1) : ∀ (f : Nat) (i : Int) (l : List Sk), l.map Sk.sh = sh → 0 ≤ i →
    ∀ p ∈ fitsF o f i l, 0 ≤ p.1 ∧ p.2 < sh.length ∧ p.1 + wAt sh p.2 ≤ (o.length : Int)
  | 0, _, _, _, _, _, hp => by simp [fitsF] at hp
  | f + 1, i, l, hl, hi, p, hp => by
    by_cases hlt : i < (o.length : Int)
    · have hr := (sh_reach i l).trans hl
      cases ht : takerOf o i (l.map (Sk.reach i)) with
      | none =>
        rw [fitsF_none hlt ht] at hp
        exact fitsF_mem sh he hw f (i + 1) _ hr (by omega) p hp
      | some n =>
        rw [fitsF_some hlt ht] at hp
        obtain ⟨s, hs, hf⟩ := taker_fit ht
        have hs' : sh[n]? = some s.sh := by rw [← hr, List.getElem?_map, hs]; rfl
        have hm := List.mem_of_getElem? hs'
        have hin := fit_in hf
        have hwn : wAt sh n = width s.k s.x := by rw [wAt, hs']; rfl
        have h1 := hw _ hm
        have h2 := he _ hm
        rcases List.mem_cons.mp hp with rfl | hp
        · exact ⟨hi, (List.getElem?_eq_some_iff.mp hs').1, by rw [hwn]; exact Int.le_trans hin.2 h2⟩
        · have hw0 : widthAt l n = wAt sh n := (widthAt_sh l n).trans (by rw [hl])
          exact fitsF_mem sh he hw f _ _ ((sh_took i _ n).trans hr) (by rw [hw0, hwn]; have : 1 ≤ width s.k s.x := h1; omega) p hp
    · rw [fitsF_out hlt] at hp; simp at hp
/-- what is put in, and what stands behind it -/
def putL (z : Oct) (i : Int) (y : Oct) (w : Int) : Oct := z.take i.toNat ++ y ++ z.drop (i + w).toNat
theorem putL_len {z y : Oct} {i w : Int} (h0 : 0 ≤ i) (hw : (y.length : Int) = w) (h1 : i + w ≤ (z.length : Int)) : (putL z i y w).length = z.length := by
  rw [putL, List.length_append, List.length_append, List.length_take, List.length_drop]; omega
def foldP (ys : Nat → Oct) (ws : Nat → Int) (os : Oct) (fs : List (Int × Nat)) : Oct := fs.foldl (fun z p => putL z p.1 (ys p.2) (ws p.2)) os
theorem first_bounds {o x : Oct} : firstI o x < (o.length : Int) := by
  unfold firstI
  cases h : (List.range o.length).find? (liesAt o x) with
  | none => show (-1 : Int) < _; omega
  | some i =>
    have := List.mem_range.mp (List.mem_of_find?_eq_some h)
    show (i : Int) < _; omega
theorem end_le (o : Oct) (b : Option Oct) : endOf o b ≤ (o.length : Int) := by
  cases b with
  | none => exact Int.le_refl _
  | some x =>
    rw [endOf]
    split
    · exact Int.le_refl _
    · exact Int.le_of_lt first_bounds
theorem PairsIn.at {tl : Led} {vs : List Value} {fs : List (Int × Nat)} (h : PairsIn tl vs fs) : ∀ {i : Nat} {v : Value}, vs[i]? = some v → ∃ a j n c t t', v = .ref a ∧ (a, tupOf #[.int j t, .int ((n : Nat) : Int) t'] c) ∈ tl ∧ fs[i]? = some (j, n) := by
  induction h with
  | nil => intro i v h; simp at h
  | cons hm _ ih =>
    intro i v h
    cases i with
    | zero =>
      obtain rfl := Option.some.inj h
      exact ⟨_, _, _, _, _, _, rfl, hm, rfl⟩
    | succ i => exact ih h
abbrev JR (cl : Addr) (rest : Led) (G : Nat → Oct) (i : Nat) (nx : Led) : Prop := ∃ oc z tz, nx = (cl, oc) :: rest ∧ oc.data = .cell (some (.bytes z tz)) ∧ KBw.bInts z = G i
theorem ownOff_cons {a : Addr} {tl : Led} {adr : List Addr} (h : OffN a tl) (r : OwnOff tl adr) : OwnOff tl (a :: adr) := fun p hp b hb => by
  rcases List.mem_cons.mp hb with rfl | hb
  · have key : ∀ {l : Led}, OffN b l → ∀ p ∈ l, p.1 ≠ b := fun {l} => by
      induction l with
      | nil => intro _ _ h; cases h
      | cons q l ih =>
        intro h p hp
        rcases List.mem_cons.mp hp with rfl | hp
        · exact h.1
        · exact ih h.2 p hp
    exact key h p hp
  · exact r p hp b hb
theorem foldP_step {ys : Nat → Oct} {ws : Nat → Int} {os : Oct} {fs : List (Int × Nat)} {i : Nat} {j : Int} {n : Nat} (h : fs[i]? = some (j, n)) : foldP ys ws os (fs.take (i + 1)) = putL (foldP ys ws os (fs.take i)) j (ys n) (ws n) := by
  rw [foldP, List.take_add_one, h, Option.toList_some, List.foldl_append]; rfl
theorem foldP_len {ys : Nat → Oct} {ws : Nat → Int} {os : Oct} {fs : List (Int × Nat)} (h : ∀ p ∈ fs, 0 ≤ p.1 ∧ ((ys p.2).length : Int) = ws p.2 ∧ p.1 + ws p.2 ≤ (os.length : Int)) : ∀ i, (foldP ys ws os (fs.take i)).length = os.length
  | 0 => rfl
  | i + 1 => by
    cases e : fs[i]? with
    | none =>
      have : fs.take (i + 1) = fs.take i := by rw [List.take_add_one, e]; simp
      rw [this]; exact foldP_len h i
    | some p =>
      obtain ⟨h0, h1, h2⟩ := h p (List.mem_of_getElem? e)
      have hi := foldP_len h i
      rw [foldP_step (j := p.1) (n := p.2) e, putL_len h0 h1 (by rw [hi]; exact h2), hi]
theorem News.mid4 {h₀ h : Heap} {L : Addr} {a b c d : Addr × Obj} {tl r : Led} (N : News h₀ L h (a :: b :: c :: d :: (tl ++ r))) : News h₀ L h (a :: b :: c :: d :: (r ++ tl)) :=
  News.sub N fun p hp => by
    simp only [List.mem_cons, List.mem_append] at hp ⊢
    rcases hp with h | h | h | h | h | h <;> simp [h]
theorem mem1 {os xs : Oct} {k : Kd} {b e : Int} (hw : 1 ≤ width k xs) (he : e ≤ (os.length : Int)) : ∀ p ∈ fitsF os os.length 0 [⟨k, xs, b, e, none, false⟩], 0 ≤ p.1 ∧ p.2 = 0 ∧ p.1 + width k xs ≤ (os.length : Int) := fun p hp => by
  obtain ⟨h0, h1, h2⟩ := fitsF_mem [(k, xs, b, e)] (by simpa using he) (by simpa using hw) _ _ [⟨k, xs, b, e, none, false⟩] rfl (Int.le_refl 0) p hp
  have hn : p.2 = 0 := Nat.lt_one_iff.mp h1
  rw [hn] at h2
  exact ⟨h0, hn, h2⟩
theorem mem2 {os xs ys : Oct} {k k2 : Kd} {b e b2 e2 : Int} (hw : 1 ≤ width k xs) (he : e ≤ (os.length : Int)) (hw2 : 1 ≤ width k2 ys) (he2 : e2 ≤ (os.length : Int)) :
    ∀ p ∈ fitsF os os.length 0 [⟨k, xs, b, e, none, false⟩, ⟨k2, ys, b2, e2, none, false⟩], 0 ≤ p.1 ∧ ((p.2 = 0 ∧ p.1 + width k xs ≤ (os.length : Int)) ∨ (p.2 = 1 ∧ p.1 + width k2 ys ≤ (os.length : Int))) := fun p hp => by
  obtain ⟨h0, h1, h2⟩ := fitsF_mem [(k, xs, b, e), (k2, ys, b2, e2)] (by simp [he, he2]) (by simp [hw, hw2]) _ _ [⟨k, xs, b, e, none, false⟩, ⟨k2, ys, b2, e2, none, false⟩] rfl (Int.le_refl 0) p hp
  have hn : p.2 = 0 ∨ p.2 = 1 := by
    have : p.2 < 2 := h1
    omega
  rcases hn with hn | hn <;> rw [hn] at h2
  · exact ⟨h0, .inl ⟨hn, h2⟩⟩
  · exact ⟨h0, .inr ⟨hn, h2⟩⟩
theorem len1 {os xs ys : Oct} {k : Kd} {b e : Int} (hw : 1 ≤ width k xs) (he : e ≤ (os.length : Int)) (hy : (ys.length : Int) = width k xs) (i : Nat) :
    (foldP (fun _ => ys) (fun _ => width k xs) os ((fitsF os os.length 0 [⟨k, xs, b, e, none, false⟩]).take i)).length = os.length :=
  foldP_len (fun p hp => ⟨(mem1 hw he p hp).1, hy, (mem1 hw he p hp).2.2⟩) i
theorem clip_in {n : Nat} {j : Int} (h0 : 0 ≤ j) (h1 : j ≤ (n : Int)) : clipAt n j = j.toNat := by
  conv => lhs; rw [← Int.toNat_of_nonneg h0]
  rw [clipAt_nat]; omega
theorem cut_put {zs ys : Oct} {j w : Int} (h0 : 0 ≤ j) (hw : 0 ≤ w) (h1 : j + w ≤ (zs.length : Int)) :
    zs.take (clipAt zs.length j) ++ ys ++ (zs.drop (clipAt zs.length (j + w))).take (zs.length - clipAt zs.length (j + w)) = putL zs j ys w := by
  have e : (zs.drop (j + w).toNat).take (zs.length - (j + w).toNat) = zs.drop (j + w).toNat := List.take_of_length_le (by rw [List.length_drop]; exact Nat.le_refl _)
  rw [clip_in h0 (by omega), clip_in (by omega) h1, e, putL]
theorem offN_to {a : Addr} : ∀ {l : Led}, OffN a l → ∀ p ∈ l, p.1 ≠ a
  | [], _, _, h => nomatch h
  | q :: l, h, p, hp => by
    rcases List.mem_cons.mp hp with rfl | hp
    · exact h.1
    · exact offN_to h.2 p hp
theorem News.mid6 {h₀ h : Heap} {L : Addr} {a b c d e f : Addr × Obj} {tl r : Led} (N : News h₀ L h (a :: b :: c :: d :: e :: f :: (tl ++ r))) : News h₀ L h (a :: b :: c :: d :: e :: f :: (r ++ tl)) :=
  News.sub N fun p hp => by
    simp only [List.mem_cons, List.mem_append] at hp ⊢
    rcases hp with h | h | h | h | h | h | h | h <;> simp [h]
def two {α : Type} (a b : α) (n : Nat) : α := if n = 0 then a else b
theorem len2 {os xs ys zs vs : Oct} {k k2 : Kd} {b e b2 e2 : Int} (hw : 1 ≤ width k xs) (he : e ≤ (os.length : Int)) (hw2 : 1 ≤ width k2 ys) (he2 : e2 ≤ (os.length : Int)) (hy : (zs.length : Int) = width k xs) (hy2 : (vs.length : Int) = width k2 ys) (i : Nat) :
    (foldP (two zs vs) (two (width k xs) (width k2 ys)) os ((fitsF os os.length 0 [⟨k, xs, b, e, none, false⟩, ⟨k2, ys, b2, e2, none, false⟩]).take i)).length = os.length :=
  foldP_len (fun p hp => by
    obtain ⟨h0, h | h⟩ := mem2 hw he hw2 he2 p hp
    · rw [h.1]; exact ⟨h0, hy, h.2⟩
    · rw [h.1]; exact ⟨h0, hy2, h.2⟩) i
theorem News.swap2 {h₀ h : Heap} {L : Addr} {a b c d : Addr × Obj} {r : Led} (N : News h₀ L h (a :: b :: c :: d :: r)) : News h₀ L h (c :: d :: a :: b :: r) :=
  News.sub N fun p hp => by
    simp only [List.mem_cons] at hp ⊢
    rcases hp with h | h | h | h | h <;> simp [h]
end PFitsLaw
section PPairLoop
open PySem PySem.W PySem.Calls PySem.Spec PyProof.Rows
section
variable {prog : Program} {w : World} {A : Around} {E : Value → Shared → Prop} {s : Shared} {env : Env} {h₀ : Heap} {target : Expr} {body : List Stmt} {Q : Flow → Shared → Prop}
def PEnd (h₀ : Heap) (L I : Addr) (oI : Obj) (J : (Str → Option Value) → Led → Prop) (s₁ s₂ : Shared) : Prop :=
  ∃ h' tk m' nx, s₂ = { s₁ with heap := h', toks := tk } ∧ Fr h₀ L h' m' ∧ News h₀ L h' ((I, oI) :: nx) ∧ (∀ p ∈ nx, p.1 ≠ I) ∧ J m' nx
def PPost (h₀ : Heap) (L I : Addr) (oI : Obj) (J : (Str → Option Value) → Led → Prop) (s₁ : Shared) (Q : Flow → Shared → Prop) (f : Flow) (s₂ : Shared) : Prop :=
  match f with
  | .ret v => Q (.ret v) s₂
  | .brk => Q .next s₂
  | _ => PEnd h₀ L I oI J s₁ s₂
/-- a list of the ledger walked, its items unpacked, by a word on the turn's number, the frame and the ledger -/
theorem turns_list {ax : Addr} {vs : List Value} {nn : Nat} {m₀ : Str → Option Value} {news : Led} (J : Nat → (Str → Option Value) → Led → Prop)
    (hh : A.handled = none) (F : Fr h₀ env.locals s.heap m₀) (N : News h₀ env.locals s.heap news) (hJm : ∀ i m nx, J i m nx → (ax, listOf vs.toArray nn) ∈ nx) (hj : J 0 m₀ news)
    (turn : ∀ i v m₁ nx I oI h tk, vs[i]? = some v → J i m₁ nx → (∀ p ∈ nx, p.1 ≠ I) → Fr h₀ env.locals h m₁ → News h₀ env.locals h ((I, oI) :: nx) →
      wpAny (model prog w) A (assign target env v) (fun _ s₂ => wpAny (model prog w) A (execs body env) (PPost h₀ env.locals I oI (J (i + 1)) { s with heap := h, toks := tk } Q) E s₂) E { s with heap := h, toks := tk })
    (done : ∀ m' nx h tk, J vs.length m' nx → Fr h₀ env.locals h m' → News h₀ env.locals h nx → Q .next { s with heap := h, toks := tk }) :
    wpAny (model prog w) A (pyIter (.ref ax)) (fun it s₂ => TurnsAt prog w A h₀ env target body Q E it s₂) E s := by
  have hm := hJm _ _ _ hj
  have hax := N _ hm
  have hl : s.heap.IsList ax vs.toArray := ⟨_, hax.1, rfl, nn, rfl⟩
  have hlt : ax < s.heap.objs.size := Heap.lt_size hax.1
  have hne : ax ≠ s.heap.objs.size := Nat.ne_of_lt hlt
  have hI0 : h₀.get? s.heap.objs.size = none := next_is_new F
  refine wpAny_pyIter_list hl ?_
  refine ⟨s.heap.objs.size, _, _, _, _, _, _, m₀, news, J, rfl, KTurns.ofWalks (Walks.list hh s.heap.objs.size ax hne vs.toArray) (fun i v s Q E st q => letGo_listiter st.1 q), ?_, ?_, ?_, ⟨⟨_, Heap.get?_push_size _ rfl, rfl, rfl⟩, hl.at fun o e => Heap.get?_push_of_some _ e⟩, F.push _, (fun p hp => ⟨Heap.get?_push_of_some _ (N p hp).1, (N p hp).2⟩), hj, ?_, ?_⟩
  · intro hI
    rcases List.mem_cons.mp hI with e | hI
    · exact absurd F.ns.lt (e ▸ Nat.lt_irrefl _)
    · exact hax.2.1 (List.mem_singleton.mp hI).symm
  · intro b hb
    rw [List.mem_singleton.mp hb]; exact hI0
  · intro p hp hI
    exact absurd (Heap.lt_size (N p hp).1) ((List.mem_singleton.mp hI) ▸ Nat.lt_irrefl _)
  · intro i v m₁ news₁ h₁ tk₁ own hin hP hJ hoff hown hget hall hst F₁ N₁
    obtain ⟨oI, hoI, _⟩ := id hst.1
    have hIown := hall _ (.head _) hI0 _ hoI
    have N₂ : News h₀ env.locals h₁ ((s.heap.objs.size, oI) :: news₁) := fun p hp => by
      rcases List.mem_cons.mp hp with rfl | hp
      · exact N₁ _ (List.mem_append_left _ hIown)
      · exact N₁ _ (List.mem_append_right _ hp)
    have hP' : vs[i]? = some v := by
      have hP1 : vs.toArray[i]? = some v := hP
      simpa using hP1
    have fin : ∀ s₃, PEnd h₀ env.locals s.heap.objs.size oI (J (i + 1)) { s with heap := h₁, toks := tk₁ } s₃ → LoopStepU h₀ env.locals [s.heap.objs.size] own (J (i + 1)) { s with heap := h₁, toks := tk₁ } .next s₃ := by
      rintro s₃ ⟨h', tk, m', nx, e, F', N', ho, hJ'⟩
      refine ⟨rfl, h', tk, m', nx, e, F', ?_, fun p hp hI => ho p hp (List.mem_singleton.mp hI), hJ'⟩
      rintro ⟨a, o⟩ hp
      rcases List.mem_append.mp hp with hp | hp
      · have e1 : h₁.get? a = some o := hget _ hp
        rcases List.mem_cons.mp (hown _ hp : a ∈ [s.heap.objs.size, ax]) with h2 | h2
        · subst h2
          rw [hoI] at e1
          cases e1
          exact N' _ (.head _)
        · have h3 : a = ax := List.mem_singleton.mp h2
          subst h3
          have e2 := (N₂ _ (.tail _ (hJm _ _ _ hJ))).1
          rw [e2] at e1
          cases e1
          exact N' _ (.tail _ (hJm _ _ _ hJ'))
      · exact N' _ (.tail _ hp)
    refine wpAny_mono (turn i v m₁ news₁ _ oI h₁ tk₁ hP' hJ (fun p hp e => hoff p hp (List.mem_singleton.mpr e)) F₁ N₂) (fun _ s₂ h₂ => wpAny_mono h₂ (fun f s₃ q => ?_) fun _ _ x => x) fun _ _ x => x
    cases f with
    | ret v => exact .ret q
    | brk => exact .brk q
    | next => exact .next (fin _ q)
    | cont => exact .cont (fin _ q)
  · intro h' tk m' news' F' N' _ hJ'
    have e : vs.toArray.size = vs.length := by simp
    exact done m' news' h' tk (e ▸ hJ') F' N'
/-- the same, the names that a turn stores told -/
theorem turns_listS {ax : Addr} {vs : List Value} {nn : Nat} {m₀ : Str → Option Value} {news nx₀ : Led} (stored : List Str) (J : Nat → Led → Prop)
    (hh : A.handled = none) (F : Fr h₀ env.locals s.heap m₀) (N : News h₀ env.locals s.heap news) (hsub : ∀ p ∈ nx₀, p ∈ news) (hJm : ∀ i nx, J i nx → (ax, listOf vs.toArray nn) ∈ nx) (hj : J 0 nx₀)
    (turn : ∀ i v nx I oI (u : Str → Option Value) h tk, vs[i]? = some v → J i nx → (∀ p ∈ nx, p.1 ≠ I) → Fr h₀ env.locals h (fun z => if stored.contains z then u z else m₀ z) → News h₀ env.locals h ((I, oI) :: nx) →
      wpAny (model prog w) A (assign target env v) (fun _ s₂ => wpAny (model prog w) A (execs body env) (PPost h₀ env.locals I oI (fun m' nx => J (i + 1) nx ∧ ∀ z, stored.contains z = false → m' z = m₀ z) { s with heap := h, toks := tk } Q) E s₂) E { s with heap := h, toks := tk })
    (done : ∀ nx (u : Str → Option Value) h tk, J vs.length nx → Fr h₀ env.locals h (fun z => if stored.contains z then u z else m₀ z) → News h₀ env.locals h nx → Q .next { s with heap := h, toks := tk }) :
    wpAny (model prog w) A (pyIter (.ref ax)) (fun it s₂ => TurnsAt prog w A h₀ env target body Q E it s₂) E s := by
  have em : ∀ m : Str → Option Value, (∀ z, stored.contains z = false → m z = m₀ z) → m = fun z => if stored.contains z then m z else m₀ z := fun m hm => by
    funext z
    cases h : stored.contains z with
    | true => simp
    | false => simp [hm z h]
  refine turns_list (fun i m nx => J i nx ∧ ∀ z, stored.contains z = false → m z = m₀ z) hh F (News.sub N hsub) (fun i m nx h => hJm i nx h.1) ⟨hj, fun _ _ => rfl⟩ (fun i v m₁ nx I oI h tk hv hJ hI F₁ N₁ => ?_) fun m' nx h tk hJ F₁ N₁ => ?_
  · rw [em m₁ hJ.2] at F₁
    exact turn i v nx I oI m₁ h tk hv hJ.1 hI F₁ N₁
  · rw [em m' hJ.2] at F₁
    exact done nx m' h tk hJ.1 F₁ N₁
end
end PPairLoop
section PCompN
open PySem PySem.W PySem.Calls PySem.Spec PyProof.Rows PyProof.Rows.LCg
/-- names stored one behind the other -/
def storesL (m : Str → Option Value) : List Str → List Value → Str → Option Value
  | x :: xs, v :: vs => storesL (fun y => if y = x then some v else m y) xs vs
  | _, _ => m
theorem storesL_off {x : Str} : ∀ {xs : List Str} {vs : List Value} {m : Str → Option Value}, x ∉ xs → storesL m xs vs x = m x
  | [], _, _, _ => by simp [storesL]
  | _ :: _, [], _, _ => by simp [storesL]
  | y :: xs, v :: vs, m, h => by
    have h1 : x ≠ y := fun e => h (e ▸ .head _)
    rw [storesL, storesL_off fun q => h (.tail _ q)]
    simp [h1]
theorem storesL_at : ∀ {xs : List Str} {vs : List Value} {m : Str → Option Value}, xs.Nodup → ∀ q ∈ xs.zip vs, storesL m xs vs q.1 = some q.2
  | [], _, _, _, _, h => by simp at h
  | _ :: _, [], _, _, _, h => by simp at h
  | x :: xs, v :: vs, m, hd, q, h => by
    obtain ⟨h1, h2⟩ := List.nodup_cons.mp hd
    rcases List.mem_cons.mp (by simpa using h : q ∈ (x, v) :: xs.zip vs) with rfl | h
    · rw [storesL, storesL_off h1]; simp
    · rw [storesL]; exact storesL_at h2 q h
def namesE (l : List (Str × Pos)) : List Expr := l.map fun q => .Name q.1 q.2
section
variable {prog : Program} {w : World} {A : Around} {E : Value → Shared → Prop} {h₀ : Heap} {L : Addr} {m : Str → Option Value} {env : Env}
theorem store_names {cenv : Env} (hp : (cenv.scope.kind == .class || (cenv.scope.kind == .module && cenv.locals != cenv.globals)) = false) : ∀ (l : List (Str × Pos)) (vs : List Value) (s : Shared) (mC : Str → Option Value) {Q : Unit → Shared → Prop},
    (∀ q ∈ l, cenv.kindOf q.1 = some .local) → s.heap.Ns cenv.locals mC → l.length = vs.length →
    (∀ h' tk, (∀ b o, b ∉ [cenv.locals] → s.heap.get? b = some o → h'.get? b = some o) → h'.Ns cenv.locals (storesL mC (l.map (·.1)) vs) → Q () { s with heap := h', toks := tk }) →
    wpAny (model prog w) A (assignInOrder ((assignEach (namesE l) cenv).map (·.2)) vs) Q E s
  | [], [], s, mC, Q, _, hn, _, h => assignInOrder_nil (h s.heap s.toks (fun _ _ _ e => e) hn)
  | [], _ :: _, _, _, _, _, _, hl, _ => by simp at hl
  | _ :: _, [], _, _, _, _, _, hl, _ => by simp at hl
  | q :: l, v :: vs, s, mC, Q, hk, hn, hl, h => by
    refine assignInOrder_cons (wpAny_assign_Name (wpAny_storeName_local (hk q (.head _)) hn (fun h₁ hn₁ hs₁ => ?_) hp))
    refine store_names hp l vs _ _ (fun q hq => hk q (.tail _ hq)) hn₁ (by simpa using hl) fun h' tk hk' hn' => h h' tk (fun b o hb e => hk' b o hb (hs₁.extBut b o (fun x => hb (x ▸ .head _)) e)) hn'
def RestN (prog : Program) (w : World) (A : Around) (h₀ : Heap) (L : Addr) (m : Str → Option Value) (env : Env) (elt : Expr) (names : List Str) (scope : Scope) (cl : List (Str × Addr)) (s : Shared) (S : Led → Prop)
    (Fin : List Value → Led → Prop) : List Value → List Value → Led → Prop
  | [], ys, news => Fin ys news
  | v :: r, ys, news => ∃ t ot vs nt, v = .ref t ∧ (t, ot) ∈ news ∧ ot.cls = .type "tuple" ∧ ot.data = .seq (List.toArray vs) nt ∧ names.length = vs.length ∧
      ∀ I oI C oC D m₂ h tk (E' : Value → Shared → Prop), NsObj oC m₂ → (∀ q ∈ names.zip vs, m₂ q.1 = some q.2) → Fr h₀ L h m → News h₀ L h ((I, oI) :: (C, oC) :: (D, lst ys) :: news) → Off3 I C D news → ((@Ne Nat I C) ∧ (@Ne Nat I D) ∧ (@Ne Nat C D)) →
      wpAny (model prog w) A (eval elt (compEnvC scope cl C env)) (CompEnd h₀ L m { s with heap := h, toks := tk } I oI C oC D (lst ys) S (fun y news' => RestN prog w A h₀ L m env elt names scope cl s S Fin r (ys ++ [y]) news')) E' { s with heap := h, toks := tk }
theorem assignEach_len (l : List (Str × Pos)) (cenv : Env) : (assignEach (namesE l) cenv).length = l.length := by
  induction l with
  | nil => rfl
  | cons q l ih => simpa [namesE, assignEach] using ih
theorem assignEach_star (l : List (Str × Pos)) (cenv : Env) : (assignEach (namesE l) cenv).findIdx? (·.1) = none := by
  induction l with
  | nil => rfl
  | cons q l ih => simpa [namesE, assignEach, List.findIdx?_cons] using ih
def SrcN (prog : Program) (w : World) (A : Around) (h₀ : Heap) (L : Addr) (m : Str → Option Value) (env : Env) (elt : Expr) (names : List Str) (scope : Scope) (cl : List (Str × Addr)) (Fin : Shared → List Value → Led → Prop) (xv : Value) (s₁ : Shared) : Prop :=
  ∃ ax its k news, xv = .ref ax ∧ A.handled = none ∧ Fr h₀ L s₁.heap m ∧ News h₀ L s₁.heap news ∧ (ax, listOf (List.toArray its) k) ∈ news ∧ its.length ≤ 64 ∧
    ∀ g, RestN prog w A h₀ L m env elt names scope cl { s₁ with heap := g } (SrcAt h₀ ax its.toArray) (Fin { s₁ with heap := g }) its [] news
/-- a list made of what a block tells of each tuple of a list, its parts named -/
theorem Assign_N {elt iter : Expr} {l : List (Str × Pos)} {y : Str} {tp py : Pos} {tk : Nat} {scope : Scope} {cl : List (Str × Addr)} {pos spos : Pos} {s : Shared} {Q : Flow → Shared → Prop} (_F₀ : Fr h₀ L s.heap m) (hLe : env.locals = L)
    (hsw : swapsWith (.ListComp elt [⟨.Tuple (namesE l) tk tp, iter, [], 0⟩] scope pos) (some (.Name y py)) spos.line env = pure true)
    (hclos : closureFor scope env = pure cl) (hcell : ∀ z ∈ scope.names, z.2 ≠ .cell) (hkind : scope.kind = .function)
    (hnames : ∀ z ∈ scope.names, z.2 = .local → scope.names.lookup z.1 = some .local) (hx : ∀ q ∈ l, scope.names.lookup q.1 = some .local) (hnd : (l.map (·.1)).Nodup)
    (hy : env.kindOf y = some .local) (hp : (env.scope.kind == .class || (env.scope.kind == .module && env.locals != env.globals)) = false)
    (h : wpAny (model prog w) A (eval iter env) (SrcN prog w A h₀ L m env elt (l.map (·.1)) scope cl (fun s₂ => FinA h₀ L m s₂ y Q)) E s)
    (hs : ∀ x, foldedSetIterable iter env x = pure x := by intro _; rfl) :
    wpAny (model prog w) A (exec (.Assign [.Name y py] (.ListComp elt [⟨.Tuple (namesE l) tk tp, iter, [], 0⟩] scope pos) spos) env) Q E s := by
  subst hLe
  rw [exec_Assign_Name_used _ _ _ _ hsw]
  refine wpAny_bind (wpAny_standAt (wpAny_bind ?_))
  show wpAny _ A (do let _ ← comprehension (.ListComp elt [⟨.Tuple (namesE l) tk tp, iter, [], 0⟩] scope pos) scope env _ (newList []) false (eval iter env) (some (assign (.Name y py) env))) _ _ s
  refine wpAny_bind (wpAny_mono (wpAny_comprehension_free (use := some (assign (.Name y py) env)) (Q := fun _ s' => Q .next s') rfl hs hclos hkind hnames
    (wpAny_mono h (fun xv s₁ h₁ => ?_) fun _ _ e => e)) (fun _ s' hq => wpAny_pure (wpAny_pure hq)) fun _ _ e => e)
  obtain ⟨ax, its, k, news, rfl, hh, F, N, hm, hsz, R⟩ := h₁
  have hl : s₁.heap.IsList ax its.toArray := ⟨_, (N _ hm).1, rfl, _, rfl⟩
  have hlt : ax < s₁.heap.objs.size := Heap.lt_size (N _ hm).1
  refine wpAny_pyIter_list hl ?_
  generalize hg1 : s₁.heap.push { cls := .type "list_iterator", data := .fields #[.ref ax, .int 0 0] } = g1
  have up1 : ∀ b o, s₁.heap.get? b = some o → g1.get? b = some o := fun b o e => hg1 ▸ Heap.get?_push_of_some _ e
  have sz1 : g1.objs.size = s₁.heap.objs.size + 1 := by rw [← hg1, Heap.size_push]
  have hI1 : g1.IsListIter s₁.heap.objs.size ax 0 := hg1 ▸ ⟨_, Heap.get?_push_size _ rfl, rfl, rfl⟩
  refine wpAny_newObj_type (wpAny_newFunctionEnv hcell (by intro z hz; simp at hz) (fun h₁ hns₁ hsb₁ => ?_) hkind)
  dsimp only at hns₁ hsb₁ ⊢
  generalize hg2 : g1.push { cls := .type "list", dict := none, data := .seq ([] : List Value).toArray } = g2 at hns₁ hsb₁ ⊢
  have sz2 : g2.objs.size = g1.objs.size + 1 := by rw [← hg2, Heap.size_push]
  have up2 : ∀ b o, b < g1.objs.size → g1.get? b = some o → h₁.get? b = some o := fun b o hb e =>
    hsb₁.extBut b o (Nat.ne_of_lt (Nat.lt_trans hb (sz2 ▸ Nat.lt_succ_self _))) (Heap.get?_push_of_some _ (hg2 ▸ Heap.get?_push_of_some _ e))
  have old : ∀ b o, s₁.heap.get? b = some o → h₁.get? b = some o := fun b o e => up2 b o (by rw [sz1]; exact Nat.lt_succ_of_lt (Heap.lt_size e)) (up1 b o e)
  have eD : h₁.get? g1.objs.size = some (lst []) := hsb₁.extBut _ _ (Nat.ne_of_lt (sz2 ▸ Nat.lt_succ_self _)) (Heap.get?_push_of_some _ (hg2 ▸ Heap.get?_push_size _ rfl))
  generalize hIe : s₁.heap.objs.size = I at *
  generalize hDe : g1.objs.size = D at *
  generalize hCe : g2.objs.size = C at *
  have fresh : ∀ a, I ≤ a → s₁.heap.get? a = none := fun a ha => by
    cases e : s₁.heap.get? a with
    | none => rfl
    | some o' => exact absurd (Heap.lt_size e) (Nat.not_lt.mpr (hIe ▸ ha))
  have fresh₀ : ∀ a, I ≤ a → h₀.get? a = none := fun a ha => by
    cases e : h₀.get? a with
    | none => rfl
    | some o' => exact absurd (F.keep a o' e) (by rw [fresh a ha]; nofun)
  have hID : I < D := by rw [sz1]; exact Nat.lt_succ_self _
  have hDC : D < C := by rw [sz2]; exact Nat.lt_succ_self _
  have hIC : I < C := Nat.lt_trans hID hDC
  have hLI : env.locals < I := hIe ▸ F.ns.lt
  have hI₀ := fresh₀ I (Nat.le_refl _)
  have hD₀ := fresh₀ D (Nat.le_of_lt hID)
  have hC₀ := fresh₀ C (Nat.le_of_lt hIC)
  have nIL : I ≠ env.locals := Nat.ne_of_gt hLI
  have nDL : D ≠ env.locals := Nat.ne_of_gt (Nat.lt_trans hLI hID)
  have nCL : C ≠ env.locals := Nat.ne_of_gt (Nat.lt_trans hLI hIC)
  have nIC : I ≠ C := Nat.ne_of_lt hIC
  have nID : I ≠ D := Nat.ne_of_lt hID
  have nCD : C ≠ D := Nat.ne_of_gt hDC
  have hne : ax ≠ I := Nat.ne_of_lt (hIe ▸ hlt)
  have W := Walks.list (prog := prog) (w := w) hh I ax hne its.toArray
  have hsrc : SrcAt h₀ ax its.toArray news := .inr ⟨_, hm, rfl, _, rfl⟩
  have off₀ : Off3 I C D news := Off3.of fun p hp => by
    have hb : p.1 < I := hIe ▸ Heap.lt_size (N p hp).1
    exact ⟨Nat.ne_of_lt hb, Nat.ne_of_lt (Nat.lt_trans hb hIC), Nat.ne_of_lt (Nat.lt_trans hb hID)⟩
  have N₁ : News h₀ env.locals h₁ ((D, lst []) :: news) := fun p hp => by
    rcases List.mem_cons.mp hp with rfl | hp
    · exact ⟨eD, nDL, hD₀⟩
    · exact ⟨old _ _ (N p hp).1, (N p hp).2⟩
  have it₁ : h₁.IsListIter I ax 0 := by obtain ⟨o, e, r⟩ := hI1; exact ⟨o, up2 _ _ hID e, r⟩
  have st₁ : h₁.IsListIter I ax 0 ∧ h₁.IsList ax its.toArray := ⟨it₁, hl.at fun o e => old _ o e⟩
  have hp' : ((compEnvC scope cl C env).scope.kind == .class || ((compEnvC scope cl C env).scope.kind == .module && (compEnvC scope cl C env).locals != (compEnvC scope cl C env).globals)) = false := by simp [compEnvC, relabel, hkind]
  refine (fun key => codeAny_compStart_list key (W.self 0 _ _ _ st₁ key)) ?_
  ·
    refine LCp.codeAny_compLoop_pair (env := compEnvC scope cl C env)
      (fun k s' => ∃ h' tk i ys m' news', s' = { s₁ with heap := h', toks := tk } ∧ i ≤ its.length ∧ k = its.length + 1 - i ∧ ys.length = i ∧ (h'.IsListIter I ax i ∧ h'.IsList ax its.toArray) ∧ Fr h₀ env.locals h' m ∧ h'.Ns C m' ∧ News h₀ env.locals h' ((D, lst ys) :: news') ∧
        Off3 I C D news' ∧ SrcAt h₀ ax its.toArray news' ∧ RestN prog w A h₀ env.locals m env elt (l.map (·.1)) scope cl { s₁ with heap := g1 } (SrcAt h₀ ax its.toArray) (FinA h₀ env.locals m { s₁ with heap := g1 } y Q) (its.drop i) ys news') ?_ (its.length + 1)
      ⟨h₁, _, 0, [], _, news, rfl, Nat.zero_le _, rfl, rfl, st₁, F.keeps old, hns₁, N₁, off₀, hsrc, R g1⟩
    rintro k' s' ⟨h', tk', i, ys, m', news', rfl, hi, rfl, hyl, hst', F', hn', N', off', hS', R'⟩
    have off3 := off'.mem
    by_cases hlt' : i < its.length
    · have hdrop : its.drop i = its[i] :: its.drop (i + 1) := List.drop_eq_getElem_cons hlt'
      rw [hdrop] at R'
      refine W.item i _ _ _ (by simpa using hlt') hst' fun v h₂ tk₂ hPv hst₂ hk₂ => ?_
      obtain rfl : v = its[i] := by
        have : its.toArray[i]? = some v := hPv
        rw [List.getElem?_toArray, List.getElem?_eq_getElem hlt'] at this
        exact (Option.some.inj this).symm
      obtain ⟨t, ot, vs, nt, hv, hmt, hct, hdt, hlen, R''⟩ := R'
      rw [hv]
      have N₂ : News h₀ env.locals h₂ ((D, lst ys) :: news') := news_but N' hk₂ fun p hp => by
        rcases List.mem_cons.mp hp with rfl | hp
        · exact Ne.symm nID
        · exact (off3 p hp).1
      have ht : IsTup h₂ t vs.toArray := ⟨ot, (N₂ _ (.tail _ hmt)).1, hct, nt, hdt⟩
      refine PySem.wpAny_letOwnedTupleGo_listiter hst₂.1 ?_
      refine assign_Tuple_tuple hh ht (by rw [assignEach_len, List.size_toArray, ← hlen, List.length_map]) (assignEach_star l _) fun h₅ he => ?_
      have he' : ∀ b o, h₂.get? b = some o → h₅.get? b = some o := fun b o e => he b o (Nat.ne_of_lt (Heap.lt_size e)) e
      have hn₅ : h₅.Ns C m' := (hn'.at' fun o e => hk₂ _ o (by simpa using Ne.symm nIC) e).at' fun o e => he' _ o e
      refine store_names hp' l vs _ m' (fun q hq => lookup_relabel_local (hx q hq)) hn₅ (by rw [← hlen, List.length_map]) fun h₃ tk₃ hk₃ hn₃ => ?_
      have old3 : ∀ b o, b ≠ C → h₂.get? b = some o → h₃.get? b = some o := fun b o hb e => hk₃ b o (show b ∉ [C] by simpa using hb) (he' b o e)
      have hst₃ : h₃.IsListIter I ax (i + 1) ∧ h₃.IsList ax its.toArray := W.frame _ _ _ hst₂ fun b hb o e => old3 b o (fun q => by
        rcases List.mem_cons.mp hb with rfl | hb
        · exact nIC q
        · exact absurd (Nat.lt_trans (hIe ▸ hlt : ax < I) hIC) (by rw [← List.mem_singleton.mp hb, q]; exact Nat.lt_irrefl _)) e
      obtain ⟨oI, heI, _⟩ := id hst₃.1
      obtain ⟨oC, heC, hoC⟩ := ns_obj hn₃
      have F₃ : Fr h₀ env.locals h₃ m := fr_but ((fr_but F' hk₂ (Ne.symm nIL) hI₀).keeps he') hk₃ (Ne.symm nCL) hC₀
      have N₃ : News h₀ env.locals h₃ ((I, oI) :: (C, oC) :: (D, lst ys) :: news') := fun p hp => by
        rcases List.mem_cons.mp hp with rfl | hp
        · exact ⟨heI, nIL, hI₀⟩
        · rcases List.mem_cons.mp hp with rfl | hp
          · exact ⟨heC, nCL, hC₀⟩
          · refine ⟨old3 _ _ ?_ (N₂ p hp).1, (N₂ p hp).2⟩
            rcases List.mem_cons.mp hp with rfl | hp
            · exact Ne.symm nCD
            · exact (off3 p hp).2.1
      refine wpAny_mono (R'' I oI C oC D _ h₃ _ _ hoC (storesL_at hnd) F₃ N₃ off' ⟨nIC, nID, nCD⟩) (fun z s₄ h₄ => ?_) fun _ _ e => e
      obtain ⟨h₄, tk₄, news₄, rfl, F₄, N₄, off₄, hS₄, R₄⟩ := h₄
      have zI := (N₄ _ (.head _)).1
      have zC := (N₄ _ (.tail _ (.head _))).1
      have zD := (N₄ _ (.tail _ (.tail _ (.head _)))).1
      have N₄' : News h₀ env.locals h₄ news₄ := fun p hp => N₄ p (.tail _ (.tail _ (.tail _ hp)))
      have hst₄ := list_st (h₀ := h₀) _ _ _ _ _ hst₃ heI zI F₄.keep N₄' hS₄
      refine append_at (hsz := by show ys.toArray.size ≤ sizeLine; rw [List.size_toArray, hyl]; exact Nat.le_trans hi (Nat.le_trans hsz (by decide))) zD fun h₆ hs₆ hD₆ => ?_
      have off4 := off₄.mem
      refine ⟨its.length + 1 - (i + 1), by omega, h₆, tk₄, i + 1, ys ++ [z], _, news₄, rfl, hlt', rfl, by rw [List.length_append, List.length_singleton, hyl], W.frame _ _ _ hst₄ fun b hb o e => hs₆.extBut b o (fun q => ?_) e, F₄.change hs₆ nDL hD₀,
        (hoC.ns zC).sameBut hs₆ nCD, fun p hp => ?_, off₄, hS₄, R₄⟩
      · rcases List.mem_cons.mp hb with rfl | hb
        · exact nID q
        · exact absurd (Nat.lt_trans (hIe ▸ hlt : ax < I) hID) (by rw [← List.mem_singleton.mp hb, q]; exact Nat.lt_irrefl _)
      · rcases List.mem_cons.mp hp with rfl | hp
        · exact ⟨hD₆.trans (congrArg some (lst_snoc ys z)), nDL, hD₀⟩
        · exact ⟨hs₆.extBut _ _ (off4 p hp).2.2 (N₄' p hp).1, (N₄' p hp).2⟩
    · obtain rfl : i = its.length := Nat.le_antisymm hi (Nat.not_lt.mp hlt')
      rw [List.drop_length] at R'
      refine W.done _ _ _ (by simpa using hst') fun h₂ tk₂ hk₂ => ?_
      have F₂ := fr_but F' hk₂ (Ne.symm nIL) hI₀
      have N₂ : News h₀ env.locals h₂ ((D, lst ys) :: news') := news_but N' hk₂ fun p hp => by
        rcases List.mem_cons.mp hp with rfl | hp
        · exact Ne.symm nID
        · exact (off3 p hp).1
      show wpAny _ A (assign (.Name y py) env (.ref D)) _ _ _
      refine wpAny_assign_Name (wpAny_storeName_local hy F₂.ns (fun h₃ hn₃ hs₃ => ?_) hp)
      have hL₀ : h₀.get? env.locals = none := Heap.get?_none_of_le F₂.above
      have F₃ : Fr h₀ env.locals h₃ (fun z => if z = y then some (.ref D) else m z) := ⟨hn₃, fun b o e => hs₃.extBut b o (fun q => by rw [q, hL₀] at e; cases e) (F₂.keep b o e), F₂.above⟩
      refine ⟨m', (hn'.at' fun o e => hk₂ _ o (by simpa using Ne.symm nIC) e).sameBut hs₃ nCL, fun h₄ hs₄ => R' D h₄ _ (F₃.change hs₄ nCL hC₀) (fun p hp => ?_) off'.one⟩
      refine ⟨hs₄.extBut _ _ ?_ (hs₃.extBut _ _ (N₂ p hp).2.1 (N₂ p hp).1), (N₂ p hp).2⟩
      rcases List.mem_cons.mp hp with rfl | hp
      · exact Ne.symm nCD
      · exact (off3 p hp).2.1
theorem RestN.five {elt : Expr} {a b c d e : Str} {scope : Scope} {cl : List (Str × Addr)} {s : Shared} {S : Led → Prop} {Fin : List Value → Led → Prop} {t : Addr} {v1 v2 v3 v4 v5 : Value} {nt : Nat} {r ys : List Value} {news : Led}
    (hm : (t, ({ cls := .type "tuple", data := .seq #[v1, v2, v3, v4, v5] nt } : Obj)) ∈ news)
    (h : ∀ I oI C oC D m₂ h tk (E' : Value → Shared → Prop), NsObj oC m₂ → m₂ a = some v1 → m₂ b = some v2 → m₂ c = some v3 → m₂ d = some v4 → m₂ e = some v5 → Fr h₀ L h m → News h₀ L h ((I, oI) :: (C, oC) :: (D, lst ys) :: news) → Off3 I C D news → ((@Ne Nat I C) ∧ (@Ne Nat I D) ∧ (@Ne Nat C D)) →
      wpAny (model prog w) A (eval elt (compEnvC scope cl C env)) (CompEnd h₀ L m { s with heap := h, toks := tk } I oI C oC D (lst ys) S (fun y news' => RestN prog w A h₀ L m env elt [a, b, c, d, e] scope cl s S Fin r (ys ++ [y]) news')) E' { s with heap := h, toks := tk }) :
    RestN prog w A h₀ L m env elt [a, b, c, d, e] scope cl s S Fin (.ref t :: r) ys news :=
  ⟨t, _, [v1, v2, v3, v4, v5], nt, rfl, hm, rfl, rfl, rfl, fun I oI C oC D m₂ g tk E' hC hq F N off ne =>
    h I oI C oC D m₂ g tk E' hC (hq (a, v1) (.head _)) (hq (b, v2) (.tail _ (.head _))) (hq (c, v3) (.tail _ (.tail _ (.head _)))) (hq (d, v4) (.tail _ (.tail _ (.tail _ (.head _))))) (hq (e, v5) (.tail _ (.tail _ (.tail _ (.tail _ (.head _)))))) F N off ne⟩
theorem RestN.nil {elt : Expr} {names : List Str} {scope : Scope} {cl : List (Str × Addr)} {s : Shared} {S : Led → Prop} {Fin : List Value → Led → Prop} {ys : List Value} {news : Led} (h : Fin ys news) :
    RestN prog w A h₀ L m env elt names scope cl s S Fin [] ys news := h
end
end PCompN
section PHandDef
open PySem PySem.W PySem.Calls PySem.Spec PyProof.Rows
/-- the dict of a Hands -/
abbrev haObj (P : Params) (u1 u2 u3 u4 u5 u6 u7 : Tok) (vf vp : Value) : Obj :=
  dictOf [⟨PyData.keyHash P (Str.ofString "fetch"), .str (Str.ofString "fetch") u1, vf⟩, ⟨PyData.keyHash P (Str.ofString "plant"), .str (Str.ofString "plant") u2, vp⟩, ⟨PyData.keyHash P (Str.ofString "amount"), .str (Str.ofString "amount") u3, .none⟩, ⟨PyData.keyHash P (Str.ofString "keep"), .str (Str.ofString "keep") u4, .none⟩, ⟨PyData.keyHash P (Str.ofString "spot"), .str (Str.ofString "spot") u5, .none⟩, ⟨PyData.keyHash P (Str.ofString "bring"), .str (Str.ofString "bring") u6, .none⟩, ⟨PyData.keyHash P (Str.ofString "room"), .str (Str.ofString "room") u7, .none⟩] 7
/-- a call that leaves its ledger as it was -/
def ROk (prog : Program) (w : World) (p : Program) (loose : List Str) (mean : ExcName → Option Value) (mg mb : Str → Option Value) (D U : Nat) (f : Value) (vs : List Value) (G : Led) (post : Value → Prop) : Prop :=
  CallOk prog w p loose mean mg mb D U f vs G (fun r led => led = G ∧ post r)
section
variable {prog : Program} {w : World} {p : Program} {loose : List Str} {mean : ExcName → Option Value} {mg mb : Str → Option Value} {D U : Nat} {f : Value} {vs : List Value} {G G' : Led} {post : Value → Prop}
theorem ROk.weak (C : ROk prog w p loose mean mg mb D U f vs G post) (hs : ∀ q ∈ G, q ∈ G') : ROk prog w p loose mean mg mb D U f vs G' post := by
  intro dp un gd env outer A₀ base h₀ L m s Q E B F X N T hf hk hd hu h
  refine C _ _ _ _ _ _ _ _ _ _ _ _ _ B F X (fun q hq => N q (hs q hq)) T hf hk hd hu fun r led h' tk' F' N' b po => ?_
  have key : ∀ b' o, s.heap.get? b' = some o → (∀ q ∈ G', q.1 ≠ b') → h'.get? b' = some o := fun b' o e n => b.keep b' o e fun q hq => n q (hs q hq)
  have hN : ∀ q ∈ G', h'.get? q.1 = some q.2 := fun q hq => by
    by_cases hq' : ∀ p ∈ G, p.1 ≠ q.1
    · exact b.keep _ _ (N q hq).1 hq'
    · obtain ⟨p, hp, e⟩ : ∃ p ∈ G, p.1 = q.1 := Classical.byContradiction fun hn => hq' fun p hp e => hn ⟨p, hp, e⟩
      have hpn := N p (hs p hp)
      have e2 : p.2 = q.2 := Option.some.inj (hpn.1.symm.trans (e ▸ (N q hq).1))
      have e3 : p = q := Prod.ext e e2
      subst e3
      exact (N' p (po.1 ▸ hp)).1
  refine h r G' h' tk' F' (fun q hq => ⟨hN q hq, (N q hq).2⟩) ⟨key, fun q hq b' o e n => n q hq⟩ ⟨rfl, po.2⟩
theorem ROk.deep {D' U' : Nat} (C : ROk prog w p loose mean mg mb D U f vs G post) (h1 : D ≤ D') (h2 : U ≤ U') : ROk prog w p loose mean mg mb D' U' f vs G post := by
  intro dp un gd env outer A₀ base h₀ L m s Q E B F X N T hf hk hd hu h
  exact C _ _ _ _ _ _ _ _ _ _ _ _ _ B F X N T hf hk (by omega) (by omega) h
theorem ROk.mono {post' : Value → Prop} (C : ROk prog w p loose mean mg mb D U f vs G post) (h1 : ∀ r, post r → post' r) : ROk prog w p loose mean mg mb D U f vs G post' := by
  intro dp un gd env outer A₀ base h₀ L m s Q E B F X N T hf hk hd hu h
  exact C _ _ _ _ _ _ _ _ _ _ _ _ _ B F X N T hf hk hd hu fun r led h' tk' F' N' b po => h r led h' tk' F' N' b ⟨po.1, h1 r po.2⟩
end
/-- what is sought: none, or an operand's octets -/
inductive OpV : Option Opd → Value → Prop
  | none : OpV none .none
  | some {op : Opd} {a : Addr} : OpV (some op) (.ref a)
inductive SV : Option Opd → Value → Prop
  | none : SV none .none
  | some {op : Opd} {b : Array UInt8} {t : Tok} : KBw.bInts b = constL op 1 → SV (some op) (.bytes b t)
/-- the octets of a constant of a size -/
inductive BV : Oct → Value → Prop
  | mk {b : Array UInt8} {t : Tok} {o : Oct} : KBw.bInts b = o → BV o (.bytes b t)
theorem BV.el {o : Oct} {v : Value} (h : BV o v) : ∃ b t, v = .bytes b t ∧ KBw.bInts b = o := by
  cases h with
  | mk h => exact ⟨_, _, rfl, h⟩
end PHandDef
section PRowDef
open PySem PySem.W PySem.Calls PySem.Spec PyProof.Rows
inductive OpIn (TL : Led) : Option Opd → Value → Prop
  | none : OpIn TL none .none
  | some {op : Opd} {a : Addr} {obj : Obj} : OpO op obj → (a, obj) ∈ TL → OpIn TL (some op) (.ref a)
structure RowS where
  k : Kd
  oo : Option Opd
  opb : Opd
  be : Option Opd
  af : Option Opd
def xsOf : Option Opd → Oct
  | none => []
  | some op => constL op 1
def oct1 (o : Option Opd) : Option Oct := o.map (constL · 1)
def RowS.x (r : RowS) : Oct := xsOf r.oo
def RowS.w (r : RowS) : Int := width r.k r.x
def RowS.y (r : RowS) : Oct := constL r.opb r.w
def RowS.sk (os : Oct) (r : RowS) : Sk := ⟨r.k, r.x, beginOf os (oct1 r.af), endOf os (oct1 r.be), none, false⟩
def repl1 (os : Oct) (r : RowS) : Oct := foldP (fun _ => r.y) (fun _ => r.w) os (fitsF os os.length 0 [r.sk os])
def repl2 (os : Oct) (r r2 : RowS) : Oct := foldP (two r.y r2.y) (two r.w r2.w) os (fitsF os os.length 0 [r.sk os, r2.sk os])
inductive RowOk (TL : Led) : RowS → Obj → Prop
  | mk {k : Kd} {oo be af : Option Opd} {opb : Opd} {va vbe vaf : Value} {b1 : Addr} {ob : Obj} {t2 : Tok} {c : Nat} : OpIn TL oo va → OpO opb ob → (b1, ob) ∈ TL → OpIn TL be vbe → OpIn TL af vaf → (k = .chars ↔ oo = Option.none) →
    ((constL opb (width k (xsOf oo))).length : Int) = width k (xsOf oo) → RowOk TL ⟨k, oo, opb, be, af⟩ (tupOf #[.str (kdStr k) t2, va, .ref b1, vbe, vaf] c)
theorem OpIn.opv {TL : Led} {oo : Option Opd} {va : Value} (h : OpIn TL oo va) : OpV oo va := by
  cases h with
  | none => exact .none
  | some _ _ => exact .some
theorem SV.wv {k : Kd} {TL : Led} {oo : Option Opd} {va v : Value} (hk : k = .chars ↔ oo = Option.none) (h : SV oo v) (hi : OpIn TL oo va) : WV k (xsOf oo) v := by
  cases h with
  | none => rw [hk.mpr rfl]; exact .chars
  | some hb =>
    cases hi with
    | some ho _ => exact .oct (fun e => by have := hk.mp e; cases this) hb (constL_len ho).1 (constL_len ho).2
theorem SV.ov {TL : Led} {oo : Option Opd} {va v : Value} (h : SV oo v) (hi : OpIn TL oo va) : OV (oct1 oo) v := by
  cases h with
  | none => exact .none
  | some hb =>
    cases hi with
    | some ho _ => exact .some hb (constL_len ho).1 (constL_len ho).2
abbrev Fd (fc : Value) (fod : Option Addr) (fd : FuncData) (fs : Array (Option Value)) : Obj := ⟨fc, fod, .func fd, fs⟩
section
variable (prog : Program) (w : World) (p : Program) (loose : List Str) (mean : ExcName → Option Value) (mg mb : Str → Option Value)
/-- what the law's hands do: an operand's octets, the item's octets, a planting -/
structure HandsOk (ff fp it pl : Addr) (fo po : Obj) (n : Nat) (os : Oct) (TL : Led) : Prop where
  op : ∀ op a obj size t, OpO op obj → (a, obj) ∈ TL → 0 ≤ size ∧ size ≤ 64 → ROk prog w p loose mean mg mb 3 140 (.ref ff) [.ref a, .int size t] ((ff, fo) :: (fp, po) :: TL) (BV (constL op size))
  item : ∀ t, ROk prog w p loose mean mg mb 3 140 (.ref ff) [.ref it, .int 1 t] ((ff, fo) :: (fp, po) :: TL) (BV os)
  plant : ∀ b t, CallOk prog w p loose mean mg mb 3 140 (.ref fp) [.ref it, .bytes b t] ((pl, listOf #[] n) :: (ff, fo) :: (fp, po) :: TL) (fun r led => ∃ o' x ox, (r = .none ∧ (∃ n', o' = listOf #[.ref x] n') ∧ ∃ c, ox = tupOf #[.ref it, .bytes b t] c) ∧ led = (pl, o') :: (x, ox) :: (ff, fo) :: (fp, po) :: TL)
end
section
variable {prog : Program} {w : World} {p : Program} {loose : List Str} {mean : ExcName → Option Value} {mg mb : Str → Option Value} {ff fp it pl : Addr} {fo po : Obj} {n : Nat} {os : Oct} {TL : Led}
theorem HandsOk.opIn {oo : Option Opd} {va : Value} (H : HandsOk prog w p loose mean mg mb ff fp it pl fo po n os TL) (h : OpIn TL oo va) :
    ∀ op a, oo = some op → va = .ref a → ∀ t, ROk prog w p loose mean mg mb 3 140 (.ref ff) [.ref a, .int 1 t] ((ff, fo) :: (fp, po) :: TL) (BV (constL op 1)) := by
  intro op a e1 e2 t
  cases h with
  | none => cases e1
  | some ho hm =>
    cases e1; cases e2
    exact H.op _ _ _ 1 t ho hm ⟨by decide, by decide⟩
theorem HandsOk.by {k : Kd} {xs : Oct} {v : Value} {opb : Opd} {ob : Obj} {b1 : Addr} (H : HandsOk prog w p loose mean mg mb ff fp it pl fo po n os TL) (ho : OpO opb ob) (hm : (b1, ob) ∈ TL) (hw : WV k xs v) :
    ∀ t, ROk prog w p loose mean mg mb 3 140 (.ref ff) [.ref b1, .int (width k xs) t] ((ff, fo) :: (fp, po) :: TL) (BV (constL opb (width k xs))) := fun t =>
  H.op _ _ _ _ t ho hm ⟨Int.le_trans (by decide) (width_pos hw).1, (width_pos hw).2⟩
/-- one entry turned, one made; what else it reads stays -/
theorem CallOk.useW {D U : Nat} {f : Value} {vs : List Value} {o : Obj} {post : Value → Obj → Addr → Obj → Prop} {R : Led}
    (C : CallOk prog w p loose mean mg mb D U f vs ((pl, o) :: R) (fun r led => ∃ o' x ox, post r o' x ox ∧ led = (pl, o') :: (x, ox) :: R))
    {dp un : Nat} {gd : Option (List Code)} {env : Env} {outer : List Env} {A₀ : Around} {base h₀ : Heap} {L : Addr} {m : Str → Option Value} {s : Shared} {Q E : Value → Shared → Prop} {news others : Led}
    (B : Below A₀ base outer h₀) (F : Fr h₀ L s.heap m) (X : (hd.heap_39 w.params).In h₀) (N : News h₀ L s.heap news) (T : Top p loose mean mg mb h₀) (hf : env.frame = some L) (hk : env.scope.kind = .function) (hd : dp + D < recursionLimit) (hu : un + U < cLine)
    (P : (pl, o) ∈ news) (PR : ∀ q ∈ R, q ∈ news) (PO : ∀ q ∈ others, q ∈ news) (hap : ∀ q ∈ others, q.1 ≠ pl)
    (h : ∀ r o' x ox h' tk', Fr h₀ L h' m → News h₀ L h' ((pl, o') :: (x, ox) :: others) → post r o' x ox → Q r { s with heap := h', toks := tk' }) :
    wpAny (model prog w) (TopA dp un gd env outer) (call f vs) Q E s := by
  refine C _ _ _ _ _ _ _ _ _ _ _ _ _ B F X (fun q hq => ?_) T hf hk hd hu fun r led h' tk' F' N' b po => ?_
  · rcases List.mem_cons.mp hq with rfl | hq
    · exact N _ P
    · exact N q (PR q hq)
  · obtain ⟨o', x, ox, po, rfl⟩ := po
    refine h r o' x ox h' tk' F' (fun q hq => ?_) po
    rcases List.mem_cons.mp hq with rfl | hq
    · exact N' _ (.head _)
    rcases List.mem_cons.mp hq with rfl | hq
    · exact N' _ (.tail _ (.head _))
    · have hqn := N q (PO q hq)
      by_cases hq' : ∀ p ∈ (pl, o) :: R, p.1 ≠ q.1
      · exact ⟨b.keep _ _ hqn.1 hq', hqn.2⟩
      · obtain ⟨p, hp, e⟩ : ∃ p ∈ (pl, o) :: R, p.1 = q.1 := Classical.byContradiction fun hn => hq' fun p hp e => hn ⟨p, hp, e⟩
        rcases List.mem_cons.mp hp with rfl | hp
        · exact absurd e.symm (hap q hq)
        · have hpn := N p (PR p hp)
          have e2 : p.2 = q.2 := Option.some.inj (hpn.1.symm.trans (e ▸ hqn.1))
          have e3 : p = q := Prod.ext e e2
          subst e3
          exact N' p (.tail _ (.tail _ hp))
end
theorem tail_one {I a : Addr} {oa : Obj} {tl : Led} (h : AllLt I tl) (ha : I ≤ a) : TailOff tl [(a, oa)] :=
  ⟨fun p hp e => absurd (lt_of_allLt h p hp) (Nat.not_lt.mpr (e ▸ ha)), trivial⟩
end PRowDef
section PLamDef
open PySem PySem.W PySem.Calls PySem.Spec PyProof.Rows
section
variable {prog : Program} {w : World} {A A₀ : Around} {s : Shared} {K : Frag} {L : Addr} {h₀ base : Heap} {m mg mb : Str → Option Value} {news : Led} {p : Program} {loose : List Str} {mean : ExcName → Option Value}
/-- a lambda of the call's own entered, with what is known of the heap that it finds -/
theorem lam_here {env : Env} {outer : List Env} {R : Result → Shared → Prop} {name qual : Str} {params : Arguments} {body : Expr} {scope : Scope} {cl : List (Str × Addr)} {pm ctv : Value} {c' : Addr} {f : Addr} {args : Args} {binds : List (Str × Value)}
    (B : Below A₀ base outer h₀) (F : Fr h₀ L s.heap m) (X₀ : K.In h₀) (N : News h₀ L s.heap news) (T : Top p loose mean mg mb h₀) (hA : A.frames = some (env :: outer)) (hf : env.frame = some L) (hke : env.scope.kind = .function)
    (ho : (f, kla_obj name qual params body scope cl pm c' ctv) ∈ news) (hcd : s.heap.CodeRec (.ref c') qual) (hroom : A.depth < recursionLimit)
    (hbind : bindArgs (kla_fn name qual params body scope cl pm (.ref c') ctv) args = pure binds) (hloc : ∀ y ∈ binds, scope.names.lookup y.1 = some .local)
    (h : ∀ g L' h₁, Stays news s.heap g → Fr h₀ L g m → Fr g L' h₁ (fun y => binds.reverse.lookup y) → News g L' h₁ news → Below A base (env :: outer) g → K.In g → Top p loose mean mg mb g → (∀ p ∈ news, p.1 < L') →
      wpAny (model prog w) (A.deeper (envX qual scope L' f (.ref c') cl)) (eval body (envX qual scope L' f (.ref c') cl))
        (fun v s' => LeaveK h₀ L m g R v s')
        (fun e s' => wpAny (model prog w) (A.deeper (envX qual scope L' f (.ref c') cl)) (leaving (envX qual scope L' f (.ref c') cl) e) (fun _ s'' => R (.error e) s'') (fun e' s'' => R (.error e') s'') s')
        { s with heap := h₁, toks := s.toks + binds.length })
    (hco : scope.isCoroutine = false) (hgen : scope.isGenerator = false) (hk : scope.kind = .function)
    (hcell : ∀ x ∈ scope.names, x.2 ≠ .cell) : codeAny (model prog w) A (.call (.ref f) args) R s := by
  obtain ⟨FG, BG, st, lv⟩ := groundX (R := R) B F N hA hf hke
  refine kla_callFunE hroom (N _ ho).1 rfl hco hgen rfl hcd ?_
  rw [hbind]
  refine wpAny_pure (wpAny_newFunctionEnv hcell hloc (fun h₁ hns hsb => ⟨((T.nolimit).keeps F.keep).fresh _ hsb, ?_⟩) hk)
  show codeAny _ _ (.expr body (envX qual scope s.heap.objs.size f (.ref c') cl)) _ _
  have hk₁ : ∀ b o, s.heap.get? b = some o → h₁.get? b = some o := fun b o e => hsb.extBut b o (Nat.ne_of_lt (Heap.lt_size e)) (Heap.get?_push_of_some _ e)
  exact kla_codeExpr (wpAny_mono (h _ s.heap.objs.size h₁ stays_hide FG ⟨hns, fun b o e => hk₁ b o (of_hideAll _ e), Nat.le_of_eq (hideAll_size _ _)⟩
    (fun p hp => ⟨hk₁ _ _ (N p hp).1, Nat.ne_of_lt (Heap.lt_size (N p hp).1), hideAll_none _ (List.mem_map_of_mem hp)⟩) BG (X₀.keeps st) (T.keeps st) fun q hq => Heap.lt_size (N q hq).1) (fun v s' hl => lv _ _ hl) fun _ _ y => y)
end
theorem allNe_lt {tl : Led} {a b : Nat} (h : AllLt a tl) (hab : a ≤ b) : ∀ p ∈ tl, p.1 ≠ b := fun p hp e => absurd (lt_of_allLt h p hp) (Nat.not_lt.mpr (e ▸ hab))
theorem News.mem2 {h₀ h : Heap} {L : Addr} {x y q : Addr × Obj} {tl : Led} (_N : News h₀ L h (x :: y :: tl)) (hq : q ∈ tl) : q ∈ x :: y :: tl := .tail _ (.tail _ hq)
theorem News.missPerm {h₀ h : Heap} {L : Addr} {st tu hx hd fp cB ff cA pr pl : Addr × Obj} {tl : Led} (N : News h₀ L h (st :: tu :: hx :: hd :: fp :: cB :: ff :: cA :: pr :: pl :: tl)) : News h₀ L h (st :: tu :: hx :: hd :: fp :: ff :: pr :: pl :: cB :: cA :: tl) :=
  News.sub N fun p hp => by
    simp only [List.mem_cons] at hp ⊢
    rcases hp with h | h | h | h | h | h | h | h | h | h | h <;> simp [h]
structure Held (P : Prop) : Prop where
  h : P
theorem Held.on {P : Prop} (x : Held P) : P := x.h
/-- a lambda's code object -/
structure LamC (oc : Obj) : Prop where
  h : ∃ vs t, oc.data = .fields vs ∧ vs[1]? = some (.str (Str.ofString "_law_replaced.<locals>.<lambda>") t)
/-- the table of the law's two lambdas -/
abbrev lamTab (cA cB : Addr) : Obj := tabObj #[rawInt 147, rawInt 18, .ref cA, rawInt 147, rawInt 101, .ref cB]
theorem miss_sub {pl x cB cA : Addr} {opl ox ocB ocA : Obj} {e1 e2 e3 e4 e5 e6 : Addr × Obj} {R : Led} {T : Array Value} (hT : T = #[rawInt 147, rawInt 18, .ref cA, rawInt 147, rawInt 101, .ref cB]) :
    ∀ q ∈ (235, lamTab cA cB) :: (cA, ocA) :: (cB, ocB) :: R, q ∈ (pl, opl) :: (x, ox) :: (cB, ocB) :: (cA, ocA) :: e1 :: e2 :: e3 :: e4 :: e5 :: e6 :: (235, tabObj T) :: R := fun q hq => by
  subst hT
  simp only [List.mem_cons] at hq ⊢
  rcases hq with h | h | h | h <;> simp [h]
theorem OpIn.mono {TL TL' : Led} {oo : Option Opd} {v : Value} (h : OpIn TL oo v) (hs : ∀ q ∈ TL, q ∈ TL') : OpIn TL' oo v := by
  cases h with
  | none => exact .none
  | some ho hm => exact .some ho (hs _ hm)
theorem RowOk.mono {TL TL' : Led} {r : RowS} {o : Obj} (h : RowOk TL r o) (hs : ∀ q ∈ TL, q ∈ TL') : RowOk TL' r o := by
  cases h with
  | mk a b c d e f g => exact .mk (a.mono hs) b (hs _ c) (d.mono hs) (e.mono hs) f g
section
variable {prog : Program} {w : World} {p : Program} {loose : List Str} {mean : ExcName → Option Value} {mg mb : Str → Option Value} {D U : Nat} {f : Value} {vs : List Value} {pre : Led} {post : Value → Led → Prop}
/-- a call, its ledger asked for member by member; what stands off what it turns is let go -/
theorem CallOk.useP (C : CallOk prog w p loose mean mg mb D U f vs pre post)
    {dp un : Nat} {gd : Option (List Code)} {env : Env} {outer : List Env} {A₀ : Around} {base h₀ : Heap} {L : Addr} {m : Str → Option Value} {s : Shared} {Q E : Value → Shared → Prop} {news : Led}
    (B : Below A₀ base outer h₀) (F : Fr h₀ L s.heap m) (X : (hd.heap_39 w.params).In h₀) (N : News h₀ L s.heap news) (T : Top p loose mean mg mb h₀) (hf : env.frame = some L) (hk : env.scope.kind = .function) (hd : dp + D < recursionLimit) (hu : un + U < cLine)
    (P : ∀ q ∈ pre, q ∈ news)
    (h : ∀ r led h' tk', Fr h₀ L h' m → News h₀ L h' led → post r led → Q r { s with heap := h', toks := tk' }) :
    wpAny (model prog w) (TopA dp un gd env outer) (call f vs) Q E s :=
  C _ _ _ _ _ _ _ _ _ _ _ _ _ B F X (fun q hq => N q (P q hq)) T hf hk hd hu fun r led h' tk' F' N' _ po => h r led h' tk' F' N' po
end
end PLamDef
section PCallC
open PySem PySem.W PySem.Calls PySem.Spec PyProof.Rows
/-- what a call does where the law's lambdas' table stands -/
def CallOkC (prog : Program) (w : World) (p : Program) (loose : List Str) (mean : ExcName → Option Value) (mg mb : Str → Option Value) (D U : Nat) (f : Value) (vs : List Value) (pre : Led) (post : Value → Led → Prop) : Prop :=
  ∀ (dp un : Nat) (gd : Option (List Code)) (env : Env) (outer : List Env) (A₀ : Around) (base h₀ : Heap) (L : Addr) (m : Str → Option Value) (s : Shared) (Q E : Value → Shared → Prop),
    Below A₀ base outer h₀ → Fr h₀ L s.heap m → (hd.heap_39 w.params).In h₀ → News h₀ L s.heap pre → Top p loose mean mg mb h₀ → env.frame = some L → env.scope.kind = .function → dp + D < recursionLimit → un + U < cLine → CodeHd base 239 235 →
    (∀ r led h' tk', Fr h₀ L h' m → News h₀ L h' led → Back pre led s.heap h' → post r led → Q r { s with heap := h', toks := tk' }) →
    wpAny (model prog w) (TopA dp un gd env outer) (call f vs) Q E s
section
variable {prog : Program} {w : World} {p : Program} {loose : List Str} {mean : ExcName → Option Value} {mg mb : Str → Option Value} {D U : Nat} {f : Value} {vs : List Value}
  {dp un : Nat} {gd : Option (List Code)} {env : Env} {outer : List Env} {A₀ : Around} {base h₀ : Heap} {L : Addr} {m : Str → Option Value} {s : Shared} {Q E : Value → Shared → Prop} {news : Led}
theorem CallOkC.useR {pre : Led} {post : Value → Prop} (C : CallOkC prog w p loose mean mg mb D U f vs pre (fun r led => led = pre ∧ post r))
    (B : Below A₀ base outer h₀) (F : Fr h₀ L s.heap m) (X : (hd.heap_39 w.params).In h₀) (N : News h₀ L s.heap news) (T : Top p loose mean mg mb h₀) (hf : env.frame = some L) (hk : env.scope.kind = .function) (hd : dp + D < recursionLimit) (hu : un + U < cLine) (hc : CodeHd base 239 235)
    (P : ∀ q ∈ pre, q ∈ news)
    (h : ∀ r h' tk', Fr h₀ L h' m → News h₀ L h' news → post r → Q r { s with heap := h', toks := tk' }) :
    wpAny (model prog w) (TopA dp un gd env outer) (call f vs) Q E s := by
  refine C _ _ _ _ _ _ _ _ _ _ _ _ _ B F X (fun q hq => N q (P q hq)) T hf hk hd hu hc fun r led h' tk' F' N' b po => h r h' tk' F' (fun q hq => ?_) po.2
  by_cases hq' : ∀ p ∈ pre, p.1 ≠ q.1
  · exact ⟨b.keep _ _ (N q hq).1 hq', (N q hq).2⟩
  · obtain ⟨p, hp, e⟩ : ∃ p ∈ pre, p.1 = q.1 := Classical.byContradiction fun hn => hq' fun p hp e => hn ⟨p, hp, e⟩
    have e2 : p.2 = q.2 := Option.some.inj ((N p (P p hp)).1.symm.trans (e ▸ (N q hq).1))
    have e3 : p = q := Prod.ext e e2
    subst e3
    exact N' p (po.1 ▸ hp)
/-- the table is filled by the call, all else that it reads stays -/
theorem CallOkC.useM {pl : Addr} {o : Obj} {R : Led} {post : Value → Prop} {new : Led → Prop} (C : CallOkC prog w p loose mean mg mb D U f vs ((pl, o) :: R) (fun r led => ∃ n, new n ∧ led = n ++ R ∧ post r))
    (B : Below A₀ base outer h₀) (F : Fr h₀ L s.heap m) (X : (hd.heap_39 w.params).In h₀) (N : News h₀ L s.heap news) (T : Top p loose mean mg mb h₀) (hf : env.frame = some L) (hk : env.scope.kind = .function) (hd : dp + D < recursionLimit) (hu : un + U < cLine) (hc : CodeHd base 239 235)
    {others : Led} (P : (pl, o) ∈ news) (PR : ∀ q ∈ R, q ∈ news) (PO : ∀ q ∈ others, q ∈ news) (hap : ∀ q ∈ others, q.1 ≠ pl)
    (h : ∀ r n h' tk', Fr h₀ L h' m → new n → News h₀ L h' (n ++ others) → Back ((pl, o) :: R) (n ++ R) s.heap h' → post r → Q r { s with heap := h', toks := tk' }) :
    wpAny (model prog w) (TopA dp un gd env outer) (call f vs) Q E s := by
  refine C _ _ _ _ _ _ _ _ _ _ _ _ _ B F X (fun q hq => ?_) T hf hk hd hu hc fun r led h' tk' F' N' b po => ?_
  · rcases List.mem_cons.mp hq with rfl | hq
    · exact N _ P
    · exact N q (PR q hq)
  · obtain ⟨n, hn, rfl, po⟩ := po
    refine h r n h' tk' F' hn (fun q hq => ?_) b po
    rcases List.mem_append.mp hq with hq | hq
    · exact N' _ (List.mem_append_left _ hq)
    · have hqn := N q (PO q hq)
      by_cases hq' : ∀ p ∈ (pl, o) :: R, p.1 ≠ q.1
      · exact ⟨b.keep _ _ hqn.1 hq', hqn.2⟩
      · obtain ⟨p, hp, e⟩ : ∃ p ∈ (pl, o) :: R, p.1 = q.1 := Classical.byContradiction fun hn => hq' fun p hp e => hn ⟨p, hp, e⟩
        rcases List.mem_cons.mp hp with rfl | hp
        · exact absurd e.symm (hap q hq)
        · have e2 : p.2 = q.2 := Option.some.inj ((N p (PR p hp)).1.symm.trans (e ▸ hqn.1))
          have e3 : p = q := Prod.ext e e2
          subst e3
          exact N' p (List.mem_append_right _ hp)
end
theorem opIn {TL : Led} {op : Opd} {a : Addr} {obj : Obj} (m : (a, obj) ∈ TL) (h : OpO op obj) : OpIn TL (some op) (.ref a) := .some h m
theorem rowMk {TL : Led} {k : Kd} {oo be af : Option Opd} {opb : Opd} {va vbe vaf : Value} {b1 : Addr} {ob : Obj} {t2 : Tok} {c : Nat} (h1 : OpIn TL oo va) (m : (b1, ob) ∈ TL) (h2 : OpO opb ob) (h3 : OpIn TL be vbe) (h4 : OpIn TL af vaf) (h5 : k = .chars ↔ oo = none)
    (h6 : ((constL opb (width k (xsOf oo))).length : Int) = width k (xsOf oo)) : RowOk TL ⟨k, oo, opb, be, af⟩ (tupOf #[.str (kdStr k) t2, va, .ref b1, vbe, vaf] c) := .mk h1 h2 m h3 h4 h5 h6
/-- the table full -/
def FullT (n : Led) : Prop := ∃ cA ocA cB ocB, LamC ocA ∧ LamC ocB ∧ n = [(235, lamTab cA cB), (cA, ocA), (cB, ocB)]
end PCallC
section PPass
open PySem PySem.W PySem.Calls PySem.Spec PyProof.Rows
/-- rows of one octet: the octets place by place -/
def outF (y : Nat → Int) (o : Oct) : Nat → Nat → List Sk → Oct
  | 0, i, _ => o.drop i
  | f + 1, i, l => match o[i]? with
    | none => []
    | some c => match takerOf o (i : Int) (l.map (Sk.reach (i : Int))) with
      | none => c :: outF y o f (i + 1) (l.map (Sk.reach (i : Int)))
      | some n => y n :: outF y o f (i + 1) ((l.map (Sk.reach (i : Int))).modify n (Sk.took (i : Int)))
def One (l : List Sk) : Prop := ∀ s ∈ l, width s.k s.x = 1
theorem One.reach {l : List Sk} (h : One l) (i : Int) : One (l.map (Sk.reach i)) := fun s hs => by
  obtain ⟨t, ht, rfl⟩ := List.mem_map.mp hs
  exact h t ht
theorem One.took {l : List Sk} (h : One l) (n : Nat) (i : Int) : One (l.modify n (Sk.took i)) := by
  induction l generalizing n with
  | nil => simpa using h
  | cons a l ih =>
    have ha := h a (.head _)
    have hl : One l := fun s hs => h s (.tail _ hs)
    cases n with
    | zero =>
      intro s hs
      rcases List.mem_cons.mp (by simpa using hs : s ∈ Sk.took i a :: l) with rfl | hs
      · exact ha
      · exact hl s hs
    | succ n =>
      intro s hs
      rcases List.mem_cons.mp (by simpa using hs : s ∈ a :: l.modify n (Sk.took i)) with rfl | hs
      · exact ha
      · exact ih hl n s hs
theorem taker_lt {o : Oct} {i : Int} {l : List Sk} {n : Nat} (h : takerOf o i l = some n) : n < l.length := by
  obtain ⟨s, hs, _⟩ := taker_fit h
  exact (List.getElem?_eq_some_iff.mp hs).1
theorem widthAt_one {l : List Sk} (h : One l) {n : Nat} (hn : n < l.length) : widthAt l n = 1 := by
  rw [widthAt, List.getElem?_eq_getElem hn]
  exact h _ (List.getElem_mem hn)
theorem take_succ_of {z : Oct} {i : Nat} {c : Int} (h : z[i]? = some c) : z.take (i + 1) = z.take i ++ [c] := by
  rw [List.take_add_one, h]; rfl
theorem fold_out (ys : Nat → Oct) (ws : Nat → Int) (y : Nat → Int) (N : Nat) (o : Oct) (hy : ∀ n, n < N → ys n = [y n]) (hw : ∀ n, n < N → ws n = 1) :
    ∀ (f i : Nat) (l : List Sk) (z : Oct), One l → l.length = N → z.length = o.length → z.drop i = o.drop i → o.length ≤ i + f → i ≤ o.length →
      foldP ys ws z (fitsF o f (i : Int) l) = z.take i ++ outF y o f i l
  | 0, i, l, z, _, _, hz, hd, hf, _ => by
    show z = z.take i ++ o.drop i
    rw [← hd, List.take_append_drop]
  | f + 1, i, l, z, h1, hN, hz, hd, hf, hi => by
    by_cases hlt : i < o.length
    · have hlt' : ((i : Nat) : Int) < (o.length : Int) := by exact_mod_cast hlt
      have ho : o[i]? = some o[i] := List.getElem?_eq_getElem hlt
      have hzi : z[i]? = some o[i] := by
        have e : (z.drop i)[0]? = (o.drop i)[0]? := by rw [hd]
        simpa [List.getElem?_drop, ho] using e
      have hd1 : z.drop (i + 1) = o.drop (i + 1) := by rw [← List.drop_drop, ← List.drop_drop, hd]
      cases ht : takerOf o (i : Int) (l.map (Sk.reach (i : Int))) with
      | none =>
        rw [fitsF_none hlt' ht, outF, ho]
        simp only [ht]
        have e1 : ((i : Nat) : Int) + 1 = ((i + 1 : Nat) : Int) := by push_cast; rfl
        rw [e1, fold_out ys ws y N o hy hw f (i + 1) _ z (h1.reach _) (by simpa using hN) hz hd1 (by omega) (by omega), take_succ_of hzi, List.append_assoc]
        rfl
      | some n =>
        have hn := taker_lt ht
        have hnN : n < N := by simpa [hN] using hn
        have hnl : n < l.length := by simpa using hn
        rw [fitsF_some hlt' ht, outF, ho, widthAt_one h1 hnl]
        simp only [ht]
        have e1 : ((i : Nat) : Int) + 1 = ((i + 1 : Nat) : Int) := by push_cast; rfl
        rw [e1]
        have ez : putL z (i : Int) (ys n) (ws n) = z.take i ++ [y n] ++ z.drop (i + 1) := by
          rw [putL, hy n hnN, hw n hnN, e1]; rfl
        show foldP ys ws (putL z (i : Int) (ys n) (ws n)) _ = _
        rw [ez]
        have hlen : (z.take i ++ [y n] ++ z.drop (i + 1)).length = o.length := by
          simp only [List.length_append, List.length_take, List.length_cons, List.length_nil, List.length_drop]; omega
        have hti : (z.take i).length = i := by rw [List.length_take]; omega
        have hta : (z.take i ++ [y n]).length = i + 1 := by rw [List.length_append, hti]; rfl
        rw [fold_out ys ws y N o hy hw f (i + 1) _ _ ((h1.reach _).took _ _) (by simpa using hN) hlen (by rw [List.drop_append_of_le_length (by omega), List.drop_of_length_le (by omega), List.nil_append, hd1]) (by omega) (by omega)]
        rw [List.take_append_of_le_length (by omega), List.take_of_length_le (by omega), List.append_assoc]
        rfl
    · have hlt' : ¬ ((i : Nat) : Int) < (o.length : Int) := by omega
      have ho : o[i]? = none := List.getElem?_eq_none (by omega)
      rw [fitsF_out hlt', outF, ho]
      show z = z.take i ++ []
      rw [List.append_nil, List.take_of_length_le (by omega)]
/-- an octet lies at a place -/
theorem lies_one {o : Oct} {a : Int} {i : Nat} : liesAt o [a] i = decide (o[i]? = some a) := by
  unfold liesAt
  congr 1
  apply propext
  rw [List.length_singleton]
  have e : o[i]? = (o.drop i)[0]? := by simp [List.getElem?_drop]
  rw [e]
  cases o.drop i with
  | nil => simp
  | cons c r => simp
/-- a leading row -/
def leadRow (z c : Opd) : RowS := ⟨.lead, some z, c, none, none⟩
section
variable {o : Oct} {a b : Int} {y : Nat → Int}
theorem lead_off (f : Nat) : ∀ (i : Nat) (j : Int), j < (i : Int) → o.length ≤ i + f → outF y o f i [⟨.lead, [a], 0, (o.length : Int), some j, false⟩] = o.drop i := by
  induction f with
  | zero => intro i j _ _; rfl
  | succ f ih =>
    intro i j hj hf
    by_cases hlt : i < o.length
    · have ho : o[i]? = some o[i] := List.getElem?_eq_getElem hlt
      have ht : takerOf o (i : Int) ([(⟨.lead, [a], 0, (o.length : Int), some j, false⟩ : Sk)].map (Sk.reach (i : Int))) = none := by
        have : ¬ j = (i : Int) := by omega
        simp [takerOf, Sk.reach, Sk.fit, fitB, reachL, this]
      rw [outF, ho]
      simp only [ht]
      show o[i] :: outF y o f (i + 1) [⟨.lead, [a], 0, (o.length : Int), some j, false⟩] = _
      rw [ih (i + 1) j (by omega) (by omega), ← List.drop_eq_getElem_cons hlt]
    · have ho : o[i]? = none := List.getElem?_eq_none (by omega)
      rw [outF, ho, List.drop_of_length_le (by omega)]
theorem lead_on (own : Oct) (hh : own.head? ≠ some a) (f : Nat) : ∀ (i n : Nat) (lead : Option Int), (lead = none ∨ lead = some (i : Int)) → (lead = none → 0 ≤ (i : Int)) → o.drop i = List.replicate n a ++ own → o.length ≤ i + f → i ≤ o.length →
    outF (fun _ => b) o f i [⟨.lead, [a], 0, (o.length : Int), lead, false⟩] = List.replicate n b ++ own := by
  induction f with
  | zero =>
    intro i n lead _ _ hd hf hi
    have hnil : o.drop i = [] := List.drop_of_length_le (by omega)
    rw [hnil] at hd
    have hz := congrArg List.length hd
    simp only [List.length_append, List.length_replicate, List.length_nil] at hz
    have h1 : n = 0 := by omega
    have h2 : own = [] := List.eq_nil_of_length_eq_zero (by omega)
    subst h1 h2
    exact hnil
  | succ f ih =>
    intro i n lead hl hl0 hd hf hi
    by_cases hlt : i < o.length
    · have ho : o[i]? = some o[i] := List.getElem?_eq_getElem hlt
      have hcons : o.drop i = o[i] :: o.drop (i + 1) := List.drop_eq_getElem_cons hlt
      have hr : reachL 0 (o.length : Int) lead (i : Int) = some (i : Int) := by
        rcases hl with rfl | rfl
        · rw [reachL, if_pos ⟨by omega, by omega⟩]
        · rfl
      have hm : [(⟨.lead, [a], 0, (o.length : Int), lead, false⟩ : Sk)].map (Sk.reach (i : Int)) = [⟨.lead, [a], 0, (o.length : Int), some (i : Int), false⟩] := by
        simp only [List.map_cons, List.map_nil, Sk.reach, hr]
      have hw : width .lead [a] = 1 := rfl
      cases n with
      | succ n =>
        rw [hcons, List.replicate_succ, List.cons_append] at hd
        obtain ⟨e1, e2⟩ := List.cons.inj hd
        have ht : takerOf o (i : Int) [(⟨.lead, [a], 0, (o.length : Int), some (i : Int), false⟩ : Sk)] = some 0 := by
          have h2 : ((i : Nat) : Int) + 1 ≤ (o.length : Int) := by omega
          have h3 : liesAt o [a] i = true := by rw [lies_one, ho, e1]; simp
          simp [takerOf, Sk.fit, fitB, hw, h2, h3]
        rw [outF, ho, hm]
        simp only [ht]
        show b :: outF (fun _ => b) o f (i + 1) [⟨.lead, [a], 0, (o.length : Int), some ((i : Int) + width .lead [a]), false⟩] = _
        rw [ih (i + 1) n _ (.inr (by rw [hw]; push_cast; rfl)) (fun h => by cases h) e2 (by omega) (by omega)]
        rfl
      | zero =>
        have hne : o[i] ≠ a := fun e => hh (by
          have hd' : o.drop i = own := by simpa using hd
          rw [← hd', hcons, e]; rfl)
        have ht : takerOf o (i : Int) [(⟨.lead, [a], 0, (o.length : Int), some (i : Int), false⟩ : Sk)] = none := by
          have h3 : liesAt o [a] i = false := by rw [lies_one, ho]; simp [hne]
          simp [takerOf, Sk.fit, fitB, h3]
        rw [outF, ho, hm]
        simp only [ht]
        show o[i] :: outF (fun _ => b) o f (i + 1) [⟨.lead, [a], 0, (o.length : Int), some (i : Int), false⟩] = _
        rw [lead_off f (i + 1) (i : Int) (by omega) (by omega), ← hcons, hd]
        rfl
    · have ho : o[i]? = none := List.getElem?_eq_none (by omega)
      have hnil : o.drop i = [] := List.drop_of_length_le (by omega)
      rw [hnil] at hd
      have hz := congrArg List.length hd
      simp only [List.length_append, List.length_replicate, List.length_nil] at hz
      have h1 : n = 0 := by omega
      have h2 : own = [] := List.eq_nil_of_length_eq_zero (by omega)
      subst h1 h2
      rw [outF, ho]; rfl
end
theorem lead_law {z c : Opd} {a b : Int} {n : Nat} {own : Oct} (hz : constL z 1 = [a]) (hc : constL c 1 = [b]) (hh : own.head? ≠ some a) :
    repl1 (List.replicate n a ++ own) (leadRow z c) = List.replicate n b ++ own := by
  have hx : (leadRow z c).x = [a] := hz
  have hw : (leadRow z c).w = 1 := by rw [RowS.w, hx]; rfl
  have hy : (leadRow z c).y = [b] := by rw [RowS.y, hw]; exact hc
  generalize ho : List.replicate n a ++ own = o
  have hs : (leadRow z c).sk o = ⟨.lead, [a], 0, (o.length : Int), none, false⟩ := by
    rw [RowS.sk, hx]; rfl
  rw [repl1, hs, hy, hw]
  have := fold_out (fun _ => [b]) (fun _ => 1) (fun _ => b) 1 o (fun _ _ => rfl) (fun _ _ => rfl) o.length 0 [⟨.lead, [a], 0, (o.length : Int), none, false⟩] o (fun s hs => by rcases List.mem_singleton.mp hs with rfl; rfl) rfl rfl rfl (by omega) (by omega)
  refine this.trans ?_
  rw [List.take_zero, List.nil_append]
  exact lead_on own hh o.length 0 n none (.inl rfl) (fun _ => by omega) (by rw [List.drop_zero, ho]) (by omega) (by omega)
/-- a row for all of one octet -/
def allRow (z c : Opd) (be af : Option Opd) : RowS := ⟨.all, some z, c, be, af⟩
def swp (a b c : Int) : Int := if c = a then b else if c = b then a else c
theorem swp_swp {a b c : Int} : swp a b (swp a b c) = c := by
  unfold swp
  by_cases h1 : c = a
  · subst h1; by_cases h2 : b = c <;> simp [h2]
  · by_cases h2 : c = b
    · subst h2; simp [h1]
    · simp [h1, h2]
theorem swp_map {a b : Int} (o : Oct) : (o.map (swp a b)).map (swp a b) = o := by
  rw [List.map_map]
  exact (List.map_congr_left (g := _root_.id) fun c _ => swp_swp).trans (List.map_id _)
section
variable {o : Oct} {a b : Int}
theorem swap_out (f : Nat) : ∀ (i : Nat) (l1 l2 : Option Int), o.length ≤ i + f → i ≤ o.length →
    outF (two b a) o f i [⟨.all, [a], 0, (o.length : Int), l1, false⟩, ⟨.all, [b], 0, (o.length : Int), l2, false⟩] = (o.drop i).map (swp a b) := by
  induction f with
  | zero =>
    intro i l1 l2 hf hi
    rw [outF, List.drop_of_length_le (by omega)]; rfl
  | succ f ih =>
    intro i l1 l2 hf hi
    by_cases hlt : i < o.length
    · have ho : o[i]? = some o[i] := List.getElem?_eq_getElem hlt
      have hcons : o.drop i = o[i] :: o.drop (i + 1) := List.drop_eq_getElem_cons hlt
      have h2 : ((i : Nat) : Int) + 1 ≤ (o.length : Int) := by omega
      have hwa : width .all [a] = 1 := rfl
      have hwb : width .all [b] = 1 := rfl
      have la : liesAt o [a] i = decide (o[i] = a) := by rw [lies_one, ho]; simp
      have lb : liesAt o [b] i = decide (o[i] = b) := by rw [lies_one, ho]; simp
      rw [outF, ho, hcons, List.map_cons]
      simp only [List.map_cons, List.map_nil, Sk.reach]
      by_cases ha : o[i] = a
      · have ht : takerOf o (i : Int) [(⟨.all, [a], 0, (o.length : Int), reachL 0 (o.length : Int) l1 (i : Int), false⟩ : Sk), ⟨.all, [b], 0, (o.length : Int), reachL 0 (o.length : Int) l2 (i : Int), false⟩] = some 0 := by
          simp [takerOf, Sk.fit, fitB, hwa, h2, la, ha, List.findIdx?_cons]
        rw [ht]
        show two b a 0 :: outF (two b a) o f (i + 1) [⟨.all, [a], 0, (o.length : Int), some ((i : Int) + width .all [a]), false⟩, ⟨.all, [b], 0, (o.length : Int), reachL 0 (o.length : Int) l2 (i : Int), false⟩] = _
        rw [ih (i + 1) _ _ (by omega) (by omega)]
        simp [two, swp, ha]
      · by_cases hb : o[i] = b
        · have ht : takerOf o (i : Int) [(⟨.all, [a], 0, (o.length : Int), reachL 0 (o.length : Int) l1 (i : Int), false⟩ : Sk), ⟨.all, [b], 0, (o.length : Int), reachL 0 (o.length : Int) l2 (i : Int), false⟩] = some 1 := by
            have hba : ¬ b = a := fun e => ha (hb.trans e)
            simp [takerOf, Sk.fit, fitB, hwa, hwb, h2, la, lb, hb, hba, List.findIdx?_cons]
          rw [ht]
          show two b a 1 :: outF (two b a) o f (i + 1) [⟨.all, [a], 0, (o.length : Int), reachL 0 (o.length : Int) l1 (i : Int), false⟩, ⟨.all, [b], 0, (o.length : Int), some ((i : Int) + width .all [b]), false⟩] = _
          rw [ih (i + 1) _ _ (by omega) (by omega)]
          rw [swp, if_neg ha, if_pos hb]; simp [two]
        · have ht : takerOf o (i : Int) [(⟨.all, [a], 0, (o.length : Int), reachL 0 (o.length : Int) l1 (i : Int), false⟩ : Sk), ⟨.all, [b], 0, (o.length : Int), reachL 0 (o.length : Int) l2 (i : Int), false⟩] = none := by
            simp [takerOf, Sk.fit, fitB, la, lb, ha, hb, List.findIdx?_cons]
          rw [ht]
          show o[i] :: outF (two b a) o f (i + 1) [⟨.all, [a], 0, (o.length : Int), reachL 0 (o.length : Int) l1 (i : Int), false⟩, ⟨.all, [b], 0, (o.length : Int), reachL 0 (o.length : Int) l2 (i : Int), false⟩] = _
          rw [ih (i + 1) _ _ (by omega) (by omega)]
          simp [swp, ha, hb]
    · have ho : o[i]? = none := List.getElem?_eq_none (by omega)
      rw [outF, ho, List.drop_of_length_le (by omega)]; rfl
end
theorem two_at {α β : Type} {a b : α} {g : α → β} : ∀ n, two (g a) (g b) n = g (two a b n) := fun n => by
  unfold two; split <;> rfl
theorem swap_law {o : Oct} {a b : Int} : repl2 o (allRow (.text [a]) (.text [b]) none none) (allRow (.text [b]) (.text [a]) none none) = o.map (swp a b) := by
  show foldP (two [b] [a]) (two (1 : Int) 1) o (fitsF o o.length 0 [⟨.all, [a], 0, (o.length : Int), none, false⟩, ⟨.all, [b], 0, (o.length : Int), none, false⟩]) = _
  have := fold_out (two [b] [a]) (two (1 : Int) 1) (two b a) 2 o (fun n _ => two_at (g := fun x => [x]) n) (fun n _ => by unfold two; split <;> rfl) o.length 0 [⟨.all, [a], 0, (o.length : Int), none, false⟩, ⟨.all, [b], 0, (o.length : Int), none, false⟩] o
    (fun s hs => by rcases List.mem_cons.mp hs with rfl | hs; rfl; rcases List.mem_singleton.mp hs with rfl; rfl) rfl rfl rfl (by omega) (by omega)
  refine this.trans ?_
  rw [List.take_zero, List.nil_append, swap_out o.length 0 none none (by omega) (by omega), List.drop_zero]
end PPass
section PByteDef
open PySem PySem.W PySem.Calls PySem.Spec PyProof.Rows
section
variable {prog : Program} {w : World} {A : Around} {E : Value → Shared → Prop} {s : Shared} {h₀ : Heap} {L D : Addr} {m : Str → Option Value} {news : Led} {vs : List Value} {ns ks ls : Oct} {b c : Array UInt8} {t u : Tok} {Q : Value → Shared → Prop}
/-- bytes made, added, repeated: a letter, its octets told -/
theorem by_make (F : Fr h₀ L s.heap m) (N : News h₀ L s.heap news) (hh : A.handled = none) (hl : s.heap.IsList D vs.toArray) (hi : IntsAre vs ns) (hr : ∀ n ∈ ns, 0 ≤ n ∧ n < 256) (hn : ns.length ≤ 64)
    (h : ∀ h' z t' k, Fr h₀ L h' m → News h₀ L h' news → KBw.bInts z = ns → Q (.bytes z t') { s with heap := h', toks := k }) : wpAny (model prog w) A (call (.type "bytes") [.ref D]) Q E s :=
  KBa.make_K F N hh hl hi (fun n hm => hr n hm) (by omega) fun h' t' k F' N' hin => h h' _ t' k F' N' (KBa.ints_make hin)
theorem by_add (hb : KBw.bInts b = ks) (hc : KBw.bInts c = ls) (h1 : ks.length ≤ 64) (h2 : ls.length ≤ 64) (h : ∀ z t' k, KBw.bInts z = ks ++ ls → Q (.bytes z t') { s with toks := k }) : wpAny (model prog w) A (binaryOp .Add (.bytes b t) (.bytes c u)) Q E s :=
  KBa.add_K hb hc (by omega) fun t' k e => h _ t' k e
theorem by_mul {x : UInt8} {y n : Int} (hy : (x.toNat : Int) = y) (h0 : 0 ≤ n) (hn : n ≤ 64) (h : ∀ z t' k, KBw.bInts z = List.replicate n.toNat y → Q (.bytes z t') { s with toks := k }) : wpAny (model prog w) A (binaryOp .Mult (.bytes #[x] t) (.int n u)) Q E s :=
  bytes_mul_any (b := [x]) (by simp) (by omega) (by omega) (by simp) fun t' k => h _ t' k (by subst hy; simp [KBw.bInts])
theorem by_ne (hb : KBw.bInts b = ks) (hc : KBw.bInts c = ks) (h : Q (.bool false) s) : wpAny (model prog w) A (compareOp .NotEq (.bytes b t) (.bytes c u)) Q E s := by
  have e := bInts_inj (hb.trans hc.symm)
  subst e
  exact ne_bytes (by simpa using h)
theorem by_eq (hb : KBw.bInts b = ks) (hc : KBw.bInts c = ks) (h : Q (.bool true) s) : wpAny (model prog w) A (compareOp .Eq (.bytes b t) (.bytes c u)) Q E s := by
  have e := bInts_inj (hb.trans hc.symm)
  subst e
  exact eq_bytes (by simpa using h)
theorem by_len (hk : KBw.bInts b = ks) (hl : ks.length ≤ 64) (h : Q (.int (ks.length : Nat) (s.toks + 1)) { s with toks := s.toks + 1 + 1 }) : wpAny (model prog w) A (call (.builtin "len") [.bytes b t]) Q E s :=
  KBw.len_K hk (by omega) h
theorem mod_rest {a b : Int} (hb : 0 < b) (hb2 : b < 1000) (h : Q (.int (a % b) s.toks) { s with toks := s.toks + 1 }) : wpAny (model prog w) A (binaryOp .Mod (.int a t) (.int b u)) Q E s :=
  PyProof.Rows.mod_int' (by omega) (by rw [Int.fmod_eq_emod_of_nonneg _ (by omega)]; exact h)
theorem div_rest {a b : Int} (hb : 0 < b) (hb2 : b < 1000) (h : Q (.int (a / b) s.toks) { s with toks := s.toks + 1 }) : wpAny (model prog w) A (binaryOp .FloorDiv (.int a t) (.int b u)) Q E s :=
  PyProof.Rows.floordiv_int (by omega) (by rw [Int.fdiv_eq_ediv_of_nonneg _ (by omega)]; exact h) (.inl (PyProof.noPylong_small (by omega)))
end
end PByteDef
section PNouDef
open PySem PySem.W PySem.Calls PySem.Spec PyProof.Rows
structure NW where
  own : Array UInt8
  to : Tok
  rest : Int
  tr : Tok
/-- figures, the first no nought once the rest is none -/
structure NF (width : Nat) (own : Array UInt8) (rest : Int) : Prop where
  len : (KBw.bInts own).length ≤ width
  lo : 0 ≤ rest
  hi : rest < ((10 ^ (width - (KBw.bInts own).length) : Nat) : Int)
  fig : ∀ x ∈ KBw.bInts own, 48 ≤ x ∧ x ≤ 57
  head : rest = 0 → (KBw.bInts own).head? ≠ some 48
theorem NF.headne {width : Nat} {own : Array UInt8} {rest x : Int} {l : Oct} (h : NF width own rest) (e : KBw.bInts own = l) (hx : x < 48 ∨ 57 < x) : l.head? ≠ some x := fun e2 => by
  rw [← e] at e2
  have := h.fig x (List.mem_of_mem_head? e2)
  omega
theorem NF.head48 {width : Nat} {own : Array UInt8} {rest : Int} {l : Oct} (h : NF width own rest) (e : KBw.bInts own = l) (hr : rest = 0) : l.head? ≠ some 48 := by
  rw [← e]; exact h.head hr
theorem NF.step {width : Nat} {own z : Array UInt8} {rest : Int} {l : Oct} (h : NF width own rest) (e : KBw.bInts own = l) (hr : 0 < rest) (hz : KBw.bInts z = [48 + rest % 10] ++ l) : NF width z (rest / 10) := by
  subst e
  have h1 := h.hi
  have h2 := h.len
  have m0 := Int.emod_nonneg rest (show (10 : Int) ≠ 0 by decide)
  have m1 := Int.emod_lt_of_pos rest (show (0 : Int) < 10 by decide)
  generalize hn : (KBw.bInts own).length = n at *
  have hlt : n < width := by
    rcases Nat.lt_or_ge n width with h | h
    · exact h
    · have : width - n = 0 := by omega
      rw [this] at h1
      simp only [Nat.pow_zero] at h1
      omega
  have hlz : (KBw.bInts z).length = n + 1 := by rw [hz]; simp [hn]
  refine ⟨by omega, by omega, ?_, fun x hx => ?_, fun h0 => ?_⟩
  · rw [hlz]
    have hp : (10 : Nat) ^ (width - n) = 10 ^ (width - (n + 1)) * 10 := by rw [← Nat.pow_succ]; congr 1; omega
    rw [hp] at h1
    push_cast at h1 ⊢
    omega
  · rw [hz] at hx
    rcases List.mem_append.mp hx with hx | hx
    · rw [List.mem_singleton.mp hx]; omega
    · exact h.fig x hx
  · rw [hz]
    show some (48 + rest % 10) ≠ some 48
    intro e
    have := Option.some.inj e
    omega
end PNouDef
section PCompB
open PySem PySem.W PySem.Calls PySem.Spec PyProof.Rows PyProof.Rows.LCg PyProof.V
section
variable {prog : Program} {w : World} {A : Around} {E : Value → Shared → Prop} {s : Shared} {h₀ : Heap} {L : Addr} {m : Str → Option Value} {env : Env}
/-- the source of a comprehension: bytes -/
def SrcB (prog : Program) (w : World) (A : Around) (h₀ : Heap) (L : Addr) (m : Str → Option Value) (env : Env) (elt : Expr) (x : Str) (scope : Scope) (cl : List (Str × Addr)) (Fin : Shared → List Value → Led → Prop) (xv : Value) (s₁ : Shared) : Prop :=
  ∃ b t news, xv = .bytes b t ∧ A.handled = none ∧ Fr h₀ L s₁.heap m ∧ News h₀ L s₁.heap news ∧ b.size ≤ sizeLine ∧
    ∀ g, CompRest prog w A h₀ L m env elt x scope cl { s₁ with heap := g } (fun _ => True) (fun i v => ∃ c u, b[i]? = some c ∧ v = .int (c.toNat : Int) u) (Fin { s₁ with heap := g }) b.size 0 [] news
theorem ListComp_B {elt iter : Expr} {x : Str} {px : Pos} {scope : Scope} {cl : List (Str × Addr)} {pos : Pos} {Q : Value → Shared → Prop} (_F₀ : Fr h₀ L s.heap m)
    (hclos : closureFor scope env = pure cl) (hcell : ∀ y ∈ scope.names, y.2 ≠ .cell) (hkind : scope.kind = .function)
    (hnames : ∀ y ∈ scope.names, y.2 = .local → scope.names.lookup y.1 = some .local) (hx : scope.names.lookup x = some .local)
    (h : wpAny (model prog w) A (eval iter env) (SrcB prog w A h₀ L m env elt x scope cl (fun s₂ => FinE h₀ L m s₂ Q)) E s)
    (hs : ∀ x, foldedSetIterable iter env x = pure x := by intro _; rfl) :
    wpAny (model prog w) A (eval (.ListComp elt [⟨.Name x px, iter, [], 0⟩] scope pos) env) Q E s := by
  rw [eval_ListComp]
  refine wpAny_comprehension_free (use := none) rfl hs hclos hkind hnames (wpAny_mono h (fun xv s₁ h₁ => ?_) fun _ _ e => e)
  obtain ⟨b, t, news, rfl, hh, F, N, hsz, R⟩ := h₁
  refine KBw.pyIter_bytes ?_
  refine block_U (KBw.walks hh s₁.heap.objs.size b t) hsz (fun i h st => by obtain ⟨o, e, _⟩ := st; exact ⟨o, e⟩) (S := fun _ => True) (fun i h h' o nw st e e' _ _ _ => ?_) hcell hkind hx ⟨_, Heap.get?_push_size _ rfl, rfl, rfl⟩ (fun b hb => ?_)
    (F.keeps fun _ _ e => Heap.get?_push_of_some _ e) (N.grown fun _ _ e => Heap.get?_push_of_some _ e) (Nat.ne_of_lt F.ns.lt) (next_is_new F) (fun p hp => Nat.ne_of_lt (Heap.lt_size (N p hp).1)) trivial (R _) ?_
  · obtain ⟨o', q, r⟩ := st
    rw [e] at q; cases q
    exact ⟨o, e', r⟩
  · rw [List.mem_singleton.mp hb]
    show s₁.heap.objs.size < (s₁.heap.push _).objs.size
    rw [Heap.size_push]; exact Nat.lt_succ_self _
  · intro D C h tk m' ys news' F' N' o1 hn hC₀ hD₀ hCL hDL hCD offC fin
    refine ⟨m', hn, fun h'' hs'' => fin D h'' tk (F'.change hs'' hCL hC₀) (fun p hp => ?_) o1⟩
    refine ⟨hs''.extBut _ _ ?_ (N' p hp).1, (N' p hp).2⟩
    rcases List.mem_cons.mp hp with rfl | hp
    · exact Ne.symm hCD
    · exact offC p hp
/-- the turns of a comprehension by a word on their number, the list and the ledger -/
theorem comp_inv {elt : Expr} {x : Str} {scope : Scope} {cl : List (Str × Addr)} {S : Led → Prop} {P : Nat → Value → Prop} {Fin : List Value → Led → Prop} {n : Nat} {news : Led} (J : Nat → List Value → Led → Prop) (h0 : J 0 [] news)
    (turn : ∀ i v ys news I oI C oC D m₂ h tk (E' : Value → Shared → Prop), i < n → J i ys news → P i v → NsObj oC m₂ → m₂ x = some v → Fr h₀ L h m → News h₀ L h ((I, oI) :: (C, oC) :: (D, lst ys) :: news) → Off3 I C D news → ((@Ne Nat I C) ∧ (@Ne Nat I D) ∧ (@Ne Nat C D)) →
      wpAny (model prog w) A (eval elt (compEnvC scope cl C env)) (CompEnd h₀ L m { s with heap := h, toks := tk } I oI C oC D (lst ys) S (fun y news' => J (i + 1) (ys ++ [y]) news')) E' { s with heap := h, toks := tk })
    (fin : ∀ ys news, J n ys news → Fin ys news) : CompRest prog w A h₀ L m env elt x scope cl s S P Fin n 0 [] news := by
  have key : ∀ (j i : Nat) (ys : List Value) (news : Led), i + j = n → J i ys news → CompRest prog w A h₀ L m env elt x scope cl s S P Fin j i ys news := by
    intro j
    induction j with
    | zero =>
      intro i ys news hi hJ
      exact CompRest.zero (fin ys news (by rw [← hi]; exact hJ))
    | succ j ih =>
      intro i ys news hi hJ
      refine CompRest.succ ?_
      intro v I oI C oC D m₂ h tk E' hv hC hx F N off ne
      refine wpAny_mono (turn i v ys news I oI C oC D m₂ h tk E' (by omega) hJ hv hC hx F N off ne) (fun y s₂ hq => ?_) fun _ _ e => e
      obtain ⟨h', tk', nw, e, F', N', off', hS, hJ'⟩ := hq
      exact ⟨h', tk', nw, e, F', N', off', hS, ih (i + 1) _ _ (by omega) hJ'⟩
  exact key n 0 [] news (by omega) h0
end
section
variable {prog : Program} {w : World} {A : Around} {E : Value → Shared → Prop} {s : Shared} {h₀ : Heap} {L d : Addr} {m : Str → Option Value} {news : Led} {o : Obj} {ks : Oct} {b : Array UInt8} {t u : Tok} {Q : Value → Shared → Prop}
theorem by_item {value slice : Expr} {i v : Int} (hk : KBw.bInts b = ks) (hl : ks.length ≤ 64) (h0 : 0 ≤ i) (hv : ks[i.toNat]? = some v) (h : ∀ t' k, Q (.int v t') { s with toks := k })
    (hs : subscripted slice false (.bytes b t) (.int i u) = operate [.bytes b t, .int i u] (getItem (.bytes b t) (.int i u)) := by with_unfolding_all rfl)
    (ht : ∀ r, letTemporaryGo value (.bytes b t) r = pure () := by intro _; with_unfolding_all rfl) : wpAny (model prog w) A (subscriptTail value slice (.bytes b t) (.int i u)) Q E s :=
  KBw.item_K hk (by omega) h0 (by have := (List.getElem?_eq_some_iff.mp hv).1; omega) (fun t' k _ _ => by rw [List.getD_eq_getElem?_getD, hv]; exact h t' k) hs ht
theorem by_get {a c k : Int} {t1 t2 t3 t4 : Tok} (N : News h₀ L s.heap news) (hm : (d, o) ∈ news) (lo : (d == sysModules) = false) (hd : o.IsDictOf (PySem.intKind prog w) [(a, .int c t1), (c, .int a t2)])
    (h : ∀ t', Q (.int (swp a c k) t') { s with toks := s.toks + 1 }) : wpAny (model prog w) A (call (.builtin "dict.get") [.ref d, .int k t3, .int k t4]) Q E s := by
  have T : TabAt (PySem.intKind prog w) PyData.int s.heap d [(PyData.int a, PyData.int c), (PyData.int c, PyData.int a)] :=
    TabAt.ofNews N hm lo hd (.cons (Flat.int c t1) (.cons (Flat.int a t2) .nil))
  refine kys_get2 (knd := PySem.intKind _ _) (enc := PyData.int) PyProof.V.same_int (intKind_is _ _ _ _) T (Flat.int k t4) ?_
  have key : ∀ z : Int, z = swp a c k → KysVal (PyData.int z) fun v => Q v { s with toks := s.toks + 1 } := fun z hz v hv => by
    obtain ⟨t', rfl⟩ := hv.int_inv
    rw [hz]; exact h t'
  refine kysD_cons_split PyProof.V.same_int (fun e => key _ (by rw [swp, if_pos e])) fun e => ?_
  refine kysD_cons_split PyProof.V.same_int (fun e2 => key _ (by rw [swp, if_neg e, if_pos e2])) fun e2 => ?_
  exact kysD_nil (key _ (by rw [swp, if_neg e, if_neg e2]))
theorem bInts_rng {b : Array UInt8} {l : Oct} (h : KBw.bInts b = l) : ∀ x ∈ l, 0 ≤ x ∧ x < 256 := fun x hx => by
  rw [← h] at hx
  obtain ⟨c, _, rfl⟩ := List.mem_map.mp hx
  have := UInt8.toNat_lt c
  constructor <;> omega
theorem swp_rng {os : Oct} {a c : Int} {o x y : Array UInt8} (h : KBw.bInts o = os) (h1 : KBw.bInts x = [a]) (h2 : KBw.bInts y = [c]) : ∀ n ∈ os.map (swp a c), 0 ≤ n ∧ n < 256 := fun n hn => by
  obtain ⟨k, hk, rfl⟩ := List.mem_map.mp hn
  have ha := bInts_rng h1 a (.head _)
  have hc := bInts_rng h2 c (.head _)
  have hk' := bInts_rng h k hk
  unfold swp
  split
  · exact hc
  · split
    · exact ha
    · exact hk'
end
end PCompB
section PWrDef
open PySem PySem.W PySem.Calls PySem.Spec PyProof.Rows PyProof.Rows.LCg
/-- the block's three behind the first call -/
theorem off3_full {h₀ h h' : Heap} {L I C D cA cB : Addr} {oI oC oD ocA ocB o : Obj} {news X R : Led} (N : News h₀ L h news) (mI : (I, oI) ∈ news) (mC : (C, oC) ∈ news) (mD : (D, oD) ∈ news)
    (b : Back ((235, o) :: R) ([(235, lamTab cA cB), (cA, ocA), (cB, ocB)] ++ R) h h') (o235 : (@Ne Nat 235 I) ∧ (@Ne Nat 235 C) ∧ (@Ne Nat 235 D)) (hX : Off3 I C D X) (hR : ∀ q ∈ R, q ∈ X) : Off3 I C D ((235, lamTab cA cB) :: (cA, ocA) :: (cB, ocB) :: X) := by
  have hx := hX.mem
  have key : ∀ c oc, (c, oc) ∈ [(235, lamTab cA cB), (cA, ocA), (cB, ocB)] ++ R → c ≠ I ∧ c ≠ C ∧ c ≠ D := fun c oc hc => by
    refine ⟨b.new _ hc I oI (N _ mI).1 fun p hp => ?_, b.new _ hc C oC (N _ mC).1 fun p hp => ?_, b.new _ hc D oD (N _ mD).1 fun p hp => ?_⟩
    · rcases List.mem_cons.mp hp with rfl | hp
      · exact o235.1
      · exact (hx p (hR p hp)).1
    · rcases List.mem_cons.mp hp with rfl | hp
      · exact o235.2.1
      · exact (hx p (hR p hp)).2.1
    · rcases List.mem_cons.mp hp with rfl | hp
      · exact o235.2.2
      · exact (hx p (hR p hp)).2.2
  exact ⟨o235, key cA ocA (by simp), key cB ocB (by simp), hX⟩
theorem by_eql {prog : Program} {w : World} {A : Around} {E : Value → Shared → Prop} {s : Shared} {h₀ : Heap} {L x y : Addr} {news : Led} {Q : Value → Shared → Prop} {c : Nat} (N : News h₀ L s.heap news) (h1 : (x, LCg.lst []) ∈ news) (h2 : (y, listOf #[] c) ∈ news) (hu : A.units + 64 < cLine) (h : Q (.bool true) s) :
    wpAny (model prog w) A (compareOp .Eq (.ref x) (.ref y)) Q E s :=
  eq_intsK (ns := []) (ms := []) (vs := []) (us := []) ⟨_, (N _ h1).1, rfl, _, rfl⟩ .nil ⟨_, (N _ h2).1, rfl, _, rfl⟩ .nil hu (by simpa using h)
end PWrDef
section PPartDef
open PySem PySem.W PySem.Calls PySem.Spec PyProof.Rows
structure PW where
  oc : Obj
  p : Int
  t : Tok
/-- the mark's first place, or the length -/
def plc (os : Oct) (a : Int) : Nat := os.findIdx (· == a)
def PTurn (h₀ : Heap) (L : Addr) (m₀ : Str → Option Value) (led : Obj → Led) (p : Int) (s : Shared) (f : Flow) (s' : Shared) : Prop :=
  f = .next ∧ ∃ oc tp h' tk, s' = { s with heap := h', toks := tk } ∧ Fr h₀ L h' m₀ ∧ News h₀ L h' (led oc) ∧ oc.data = .cell (some (.int (p + 1) tp))
def PStop (h₀ : Heap) (L : Addr) (m₀ : Str → Option Value) (led : Obj → Led) (os : Oct) (a : Int) (s : Shared) (s' : Shared) : Prop :=
  ∃ oc tp h' tk, s' = { s with heap := h', toks := tk } ∧ Fr h₀ L h' m₀ ∧ News h₀ L h' (led oc) ∧ oc.data = .cell (some (.int (plc os a : Int) tp))
theorem plc_end {os : Oct} {a : Int} {p : Int} (h0 : 0 ≤ p) (h1 : ¬ p < (os.length : Int)) (h2 : p ≤ (os.length : Int)) (hn : ∀ j : Nat, (j : Int) < p → os[j]? ≠ some a) : p = (plc os a : Int) := by
  have e : plc os a = os.length := by
    rw [plc, List.findIdx_eq_length]
    intro x hx
    obtain ⟨j, hj, rfl⟩ := List.mem_iff_getElem.mp hx
    have := hn j (by omega)
    rw [List.getElem?_eq_getElem hj] at this
    simpa using this
  omega
theorem plc_at {os : Oct} {a : Int} {p : Int} (h0 : 0 ≤ p) (ha : os[p.toNat]? = some a) (hn : ∀ j : Nat, (j : Int) < p → os[j]? ≠ some a) : p = (plc os a : Int) := by
  obtain ⟨hlt, hv⟩ := List.getElem?_eq_some_iff.mp ha
  have e : plc os a = p.toNat := by
    rw [plc, List.findIdx_eq hlt]
    refine ⟨by simp [hv], fun j hj => ?_⟩
    have := hn j (by omega)
    rw [List.getElem?_eq_getElem (by omega)] at this
    simpa using this
  omega
theorem cut_one {os : Oct} {a p : Int} {c mark : Array UInt8} (hk : KBw.bInts c = (os.drop (clipAt os.length p)).take (clipAt os.length (p + 1) - clipAt os.length p)) (hm : KBw.bInts mark = [a]) (h0 : 0 ≤ p) :
    (c.toList != mark.toList) = !decide (os[p.toNat]? = some a) := by
  have e : (os.drop (clipAt os.length p)).take (clipAt os.length (p + 1) - clipAt os.length p) = (os.drop p.toNat).take 1 := cut_eq (n := 1) h0
  rw [e] at hk
  rw [bne, eq_dec, hk, hm]
  have := lies_one (o := os) (a := a) (i := p.toNat)
  unfold liesAt at this
  rw [List.length_singleton] at this
  rw [this]
theorem part_ne {os : Oct} {a p : Int} {c mark : Array UInt8} (hk : KBw.bInts c = (os.drop (clipAt os.length p)).take (clipAt os.length (p + 1) - clipAt os.length p)) (hm : KBw.bInts mark = [a]) (h0 : 0 ≤ p) (h : (c.toList != mark.toList) = true) : os[p.toNat]? ≠ some a := by
  rw [cut_one hk hm h0] at h
  simpa using h
theorem part_eq {os : Oct} {a p : Int} {c mark : Array UInt8} (hk : KBw.bInts c = (os.drop (clipAt os.length p)).take (clipAt os.length (p + 1) - clipAt os.length p)) (hm : KBw.bInts mark = [a]) (h0 : 0 ≤ p) (h : (c.toList != mark.toList) = false) : os[p.toNat]? = some a := by
  rw [cut_one hk hm h0] at h
  simpa using h
theorem stop_eq {os : Oct} {a p : Int} {c mark : Array UInt8} {oc : Obj} {t : Tok} (hk : KBw.bInts c = (os.drop (clipAt os.length p)).take (clipAt os.length (p + 1) - clipAt os.length p)) (hm : KBw.bInts mark = [a]) (h0 : 0 ≤ p) (h : (c.toList != mark.toList) = false)
    (hn : ∀ j : Nat, (j : Int) < p → os[j]? ≠ some a) (hc : oc.data = .cell (some (.int p t))) : oc.data = .cell (some (.int (plc os a : Int) t)) := by
  rw [← plc_at h0 (part_eq hk hm h0 h) hn]; exact hc
theorem stop_end {os : Oct} {a p : Int} {oc : Obj} {t : Tok} (h0 : 0 ≤ p) (h1 : ¬ p < (os.length : Int)) (h2 : p ≤ (os.length : Int)) (hn : ∀ j : Nat, (j : Int) < p → os[j]? ≠ some a) (hc : oc.data = .cell (some (.int p t))) : oc.data = .cell (some (.int (plc os a : Int) t)) := by
  rw [← plc_end h0 h1 h2 hn]; exact hc
theorem plc_le (os : Oct) (a : Int) : plc os a ≤ os.length := List.findIdx_le_length
section
variable {prog : Program} {w : World} {A : Around} {E : Value → Shared → Prop} {s : Shared} {env : Env} {h₀ : Heap} {L : Addr} {Q : Flow → Shared → Prop}
theorem part_while {test : Expr} {body : List Stmt} {pos : Pos} {m₀ : Str → Option Value} {oc0 : Obj} {t0 : Tok} {os : Oct} {a : Int} (led : Obj → Led) (F : Fr h₀ L s.heap m₀) (N : News h₀ L s.heap (led oc0)) (hcd : oc0.data = .cell (some (.int 0 t0)))
    (turn : ∀ oc p tp h tk, 0 ≤ p → p ≤ (os.length : Int) → (∀ j : Nat, (j : Int) < p → os[j]? ≠ some a) → oc.data = .cell (some (.int p tp)) → Fr h₀ L h m₀ → News h₀ L h (led oc) →
      wpAny (model prog w) A (isTrue test env (eval test env)) (fun b s₂ => if b = true then wpAny (model prog w) A (execs body env) (fun f s₃ => PTurn h₀ L m₀ led p s f s₃ ∧ p < (os.length : Int) ∧ os[p.toNat]? ≠ some a) E s₂ else PStop h₀ L m₀ led os a s s₂) E { s with heap := h, toks := tk })
    (rest : ∀ oc tp h tk, oc.data = .cell (some (.int (plc os a : Int) tp)) → Fr h₀ L h m₀ → News h₀ L h (led oc) → Q .next { s with heap := h, toks := tk })
    (hE : PassesOwn (model prog w) A env E := by passes_own) :
    wpAny (model prog w) A (exec (.While test body [] pos) env) Q E s := by
  refine ksw_while (σ := PW) (fun c => led c.oc) (fun _ => []) (fun _ => True) [] (fun c => 0 ≤ c.p ∧ c.p ≤ (os.length : Int) ∧ (∀ j : Nat, (j : Int) < c.p → os[j]? ≠ some a) ∧ c.oc.data = .cell (some (.int c.p c.t))) (fun c => ((os.length : Int) - c.p).toNat) ⟨oc0, 0, t0⟩ F N True.intro (fun p hp => by cases hp)
    ⟨Int.le_refl 0, Int.natCast_nonneg _, fun j hj => by (have hj' : (j : Int) < 0 := hj; omega), hcd⟩ ?_ hE
  rintro ⟨oc, p, tp⟩ u h tk _ ⟨h1, h2, h3, h4⟩ F' N'
  have F'' : Fr h₀ L h m₀ := F'
  refine wpAny_mono (turn oc p tp h tk h1 h2 h3 h4 F'' N') (fun b s₂ hb => ?_) fun _ _ e => e
  cases b with
  | false =>
    simp only [Bool.false_eq_true, if_false] at hb ⊢
    obtain ⟨oc', tp', h', tk', rfl, F3, N3, hc3⟩ := hb
    exact rest oc' tp' h' tk' hc3 F3 N3
  | true =>
    simp only [if_true] at hb ⊢
    refine wpAny_mono hb (fun f s₃ hf => ?_) fun _ _ e => e
    obtain ⟨⟨rfl, oc', tp', h', tk', rfl, F3, N3, hc3⟩, hlt, hne⟩ := hf
    refine ksw_end ⟨oc', p + 1, tp'⟩ F3 N3 (fun _ hp => hp) True.intro (fun p hp => by cases hp) (fun z _ _ => rfl) ⟨by have hp : 0 ≤ p := h1; show 0 ≤ p + 1; omega, by show p + 1 ≤ _; omega, fun j hj => ?_, hc3⟩ (by have hp : 0 ≤ p := h1; show ((os.length : Int) - (p + 1)).toNat < ((os.length : Int) - p).toNat; omega)
    by_cases e : (j : Int) = p
    · have hp : 0 ≤ p := h1
      have : j = p.toNat := by omega
      rw [this]; exact hne
    · exact h3 j (by have h5 : (j : Int) < p + 1 := hj; show (j : Int) < p; omega)
end
def dueG (os : Oct) (p : Nat) (k : Int) : Int := if k < (p : Int) ∧ os.getD k.toNat 0 = 48 then 42 else os.getD k.toNat 0
def behG (os : Oct) (l : List Int) (k : Int) : List Int := if os.getD k.toNat 0 = 48 then l ++ [k] else l
theorem behG_yes {os : Oct} {l : List Int} {k : Int} (h : os.getD k.toNat 0 = 48) : behG os l k = l ++ [k] := by rw [behG, if_pos h]
theorem behG_no {os : Oct} {l : List Int} {k : Int} (h : os.getD k.toNat 0 ≠ 48) : behG os l k = l := by rw [behG, if_neg h]
theorem dueG_1 {os : Oct} {p : Nat} {k : Int} (h1 : k < (p : Int)) (h2 : os.getD k.toNat 0 = 48) : dueG os p k = 42 := by rw [dueG, if_pos ⟨h1, h2⟩]
theorem dueG_2 {os : Oct} {p : Nat} {k : Int} (h : os.getD k.toNat 0 ≠ 48) : dueG os p k = os.getD k.toNat 0 := by rw [dueG, if_neg (fun x => h x.2)]
theorem dueG_3 {os : Oct} {p : Nat} {k : Int} (h : ¬ k < (p : Int)) : dueG os p k = os.getD k.toNat 0 := by rw [dueG, if_neg (fun x => h x.1)]
theorem behG_grows (os : Oct) : KPfGrows (behG os) := fun l k => by
  unfold behG; split
  · simp
  · omega
theorem at_getD {os : Oct} {k : Int} (h0 : 0 ≤ k) (h1 : k < (os.length : Int)) : os[k.toNat]? = some (os.getD k.toNat 0) := by
  have hlt : k.toNat < os.length := by omega
  rw [List.getD_eq_getElem?_getD, List.getElem?_eq_getElem hlt, Option.getD_some]
def dueM (os : Oct) (p : Nat) : Oct := (rangeKs 0 os.length).map (dueG os p)
def behL (os : Oct) (p : Nat) : List Int := (rangeKs ((p : Int) + 1) ((os.length : Int) - ((p : Int) + 1)).toNat).foldl (behG os) []
section
variable {prog : Program} {w : World} {A : Around} {E : Value → Shared → Prop} {s : Shared} {h₀ : Heap} {L d : Addr} {m : Str → Option Value} {news : Led} {Q : Value → Shared → Prop}
theorem by_nel {x y : Addr} {ys : List Value} {ns : List Int} {c : Nat} {b : Bool} (N : News h₀ L s.heap news) (h1 : (x, LCg.lst ys) ∈ news) (hi : IntsAre ys ns) (h2 : (y, listOf #[] c) ∈ news) (hu : A.units + 64 < cLine) (hb : decide (ns ≠ []) = b) (h : Q (.bool b) s) :
    wpAny (model prog w) A (compareOp .NotEq (.ref x) (.ref y)) Q E s :=
  ne_intsK (ms := []) (us := []) ⟨_, (N _ h1).1, rfl, _, rfl⟩ hi ⟨_, (N _ h2).1, rfl, _, rfl⟩ .nil hu (by subst hb; simpa using h)
theorem by_head {value slice : Expr} {l : Addr} {v : Value} {vs : List Value} {u : Tok} (N : News h₀ L s.heap news) (hm : (l, LCg.lst (v :: vs)) ∈ news) (h : Q v s)
    (hs : subscripted slice false (.ref l) (.int 0 u) = operate [.ref l, .int 0 u] (getItem (.ref l) (.int 0 u)) := by with_unfolding_all rfl) :
    wpAny (model prog w) A (subscriptTail value slice (.ref l) (.int 0 u)) Q E s := by
  have hl : s.heap.IsList l (v :: vs).toArray := ⟨_, (N _ hm).1, rfl, _, rfl⟩
  exact tail_any hl.typeIs slot_list_getitem.lookup (wpAny_getItem_list hl (by decide) (by decide) (by simp) h) hs
end
/-- the second block's turns -/
abbrev behN (os : Oct) (a : Int) : Nat := ((os.length : Int) - ((plc os a : Int) + 1)).toNat
theorem beh_small {os : Oct} {a : Int} (lo : os.length ≤ 64) : Builtin.Range.small ((plc os a : Int) + 1) (os.length : Int) 1 = true := by
  have := plc_le os a
  exact small_one (by omega) (by omega) (by omega) (by omega)
theorem beh_size {os : Oct} {a : Int} : Builtin.Range.rangeSize ((plc os a : Int) + 1) (os.length : Int) 1 = ((behN os a : Nat) : Int) := rangeSize_up _ _
theorem beh_fit {os : Oct} {a : Int} (lo : os.length ≤ 64) : behN os a ≤ sizeLine := by rw [PySem.sizeLine_eq]; unfold behN; omega
theorem beh_at {os : Oct} {a : Int} (i : Nat) (v : Value) (hi : i < behN os a) (h : ∃ t, v = .int ((plc os a : Int) + 1 + (i : Int)) t) : ∃ k t, (rangeKs ((plc os a : Int) + 1) (behN os a))[i]? = some k ∧ v = .int k t := by
  obtain ⟨t, rfl⟩ := h
  exact ⟨_, t, by simp [rangeKs, hi], rfl⟩
theorem beh_lt {os : Oct} {a k : Int} (h0 : (plc os a : Int) + 1 ≤ k) (h1 : k < (plc os a : Int) + 1 + (behN os a : Int)) : k < (os.length : Int) := by unfold behN at h1; omega
theorem behL_mem {os : Oct} {p : Nat} {i : Int} {r : List Int} (h : behL os p = i :: r) : (p : Int) + 1 ≤ i ∧ i < (os.length : Int) ∧ os.getD i.toNat 0 = 48 := by
  have key : ∀ (ks : List Int) (l : List Int), (∀ x ∈ l, (p : Int) + 1 ≤ x ∧ x < (os.length : Int) ∧ os.getD x.toNat 0 = 48) → (∀ x ∈ ks, (p : Int) + 1 ≤ x ∧ x < (os.length : Int)) → ∀ x ∈ ks.foldl (behG os) l, (p : Int) + 1 ≤ x ∧ x < (os.length : Int) ∧ os.getD x.toNat 0 = 48 := by
    intro ks
    induction ks with
    | nil => intro l hl _; exact hl
    | cons k ks ih =>
      intro l hl hk
      refine ih _ (fun x hx => ?_) fun x hx => hk x (.tail _ hx)
      unfold behG at hx
      split at hx
      · rcases List.mem_append.mp hx with hx | hx
        · exact hl x hx
        · rw [List.mem_singleton.mp hx]
          have := hk k (.head _)
          exact ⟨this.1, this.2, by assumption⟩
      · exact hl x hx
  exact key (rangeKs ((p : Int) + 1) ((os.length : Int) - ((p : Int) + 1)).toNat) [] (fun x hx => by cases hx) (fun x hx => by have := mem_rangeKs hx; omega) i (by rw [behL] at h; rw [h]; exact .head _)
theorem due_rng {os : Oct} {p : Nat} {o : Array UInt8} (h : KBw.bInts o = os) : ∀ x ∈ dueM os p, 0 ≤ x ∧ x < 256 := fun x hx => by
  obtain ⟨k, hk, rfl⟩ := List.mem_map.mp hx
  have hb := mem_rangeKs hk
  have h2 := bInts_rng h _ (List.mem_of_getElem? (at_getD hb.1 (by omega)))
  unfold dueG
  split
  · exact ⟨by decide, by decide⟩
  · exact h2
theorem set_rng {l : Oct} {i : Nat} {v : Int} (h : ∀ x ∈ l, 0 ≤ x ∧ x < 256) (hv : 0 ≤ v ∧ v < 256) : ∀ x ∈ l.set i v, 0 ≤ x ∧ x < 256 := fun x hx => by
  rcases List.mem_or_eq_of_mem_set hx with hx | rfl
  · exact h x hx
  · exact hv
theorem dueM_len (os : Oct) (p : Nat) : (dueM os p).length = os.length := by rw [dueM, List.length_map, rangeKs_length]
end PPartDef
section PPartLaw
open PySem PySem.W PySem.Calls PySem.Spec PyProof.Rows
section
variable {o : Oct} {p : Nat} {bB : Int} {T : Oct} {z : Option Nat}
theorem part_out (_hp : p ≤ o.length) (hb : ∀ i : Nat, i < o.length → (bB ≤ (i : Int) ↔ p + 1 ≤ i)) (hz : ∀ z0, z = some z0 → p + 1 ≤ z0 ∧ o[z0]? = some 48) (hz2 : ∀ j, p + 1 ≤ j → o[j]? = some 48 → ∃ z0, z = some z0 ∧ z0 ≤ j) (hT : T.length = o.length)
    (h1 : ∀ i, i < p → o[i]? = some 48 → T[i]? = some 42) (h2 : ∀ i c, i < p → o[i]? = some c → c ≠ 48 → T[i]? = some c) (h3 : ∀ i, z = some i → T[i]? = some 32) (h4 : ∀ i c, p ≤ i → z ≠ some i → o[i]? = some c → T[i]? = some c) (f : Nat) :
    ∀ (i : Nat) (l1 l2 : Option Int) (done : Bool), (done = true ↔ ∃ z0, z = some z0 ∧ z0 < i) → o.length ≤ i + f → i ≤ o.length →
      outF (two 42 32) o f i [⟨.all, [48], 0, (p : Int), l1, false⟩, ⟨.first, [48], bB, (o.length : Int), l2, done⟩] = T.drop i := by
  induction f with
  | zero =>
    intro i l1 l2 done _ hf hi
    rw [outF, List.drop_of_length_le (by omega), List.drop_of_length_le (by omega)]
  | succ f ih =>
    intro i l1 l2 done hd hf hi
    by_cases hlt : i < o.length
    · have ho : o[i]? = some o[i] := List.getElem?_eq_getElem hlt
      have hTi : i < T.length := by omega
      have hcons : T.drop i = T[i] :: T.drop (i + 1) := List.drop_eq_getElem_cons hTi
      have hTs : T[i]? = some T[i] := List.getElem?_eq_getElem hTi
      have hle : ((i : Nat) : Int) + 1 ≤ (o.length : Int) := by omega
      have wa : width .all [48] = 1 := rfl
      have wf : width .first [48] = 1 := rfl
      have la : liesAt o [48] i = decide (o[i] = 48) := by rw [lies_one, ho]; simp
      have hbi := hb i hlt
      rw [outF, ho, hcons]
      simp only [List.map_cons, List.map_nil, Sk.reach]
      generalize reachL 0 (p : Int) l1 (i : Int) = l1'
      generalize reachL bB (o.length : Int) l2 (i : Int) = l2'
      by_cases h48 : o[i] = 48
      · by_cases hip : i < p
        · have hip' : ((i : Nat) : Int) + 1 ≤ (p : Int) := by omega
          have ht : takerOf o (i : Int) [(⟨.all, [48], 0, (p : Int), l1', false⟩ : Sk), ⟨.first, [48], bB, (o.length : Int), l2', done⟩] = some 0 := by
            simp [takerOf, Sk.fit, fitB, wa, la, h48, hip', List.findIdx?_cons]
          rw [ht]
          show two 42 32 0 :: outF (two 42 32) o f (i + 1) [⟨.all, [48], 0, (p : Int), some ((i : Int) + width .all [48]), false⟩, ⟨.first, [48], bB, (o.length : Int), l2', done⟩] = _
          rw [ih (i + 1) _ _ done ?_ (by omega) (by omega)]
          · have := h1 i hip (by rw [ho, h48])
            rw [hTs] at this
            rw [Option.some.inj this]; rfl
          · constructor
            · intro e
              obtain ⟨z0, hz0, hz1⟩ := hd.mp e
              exact ⟨z0, hz0, by omega⟩
            · rintro ⟨z0, hz0, hz1⟩
              exact absurd (hz z0 hz0).1 (by omega)
        · have hip' : ¬ ((i : Nat) : Int) + 1 ≤ (p : Int) := by omega
          by_cases hfit : done = false ∧ p + 1 ≤ i
          · obtain ⟨hdf, hpi⟩ := hfit
            have hbB := hbi.mpr hpi
            have hzi : z = some i := by
              obtain ⟨z0, hz0, hz1⟩ := hz2 i hpi (by rw [ho, h48])
              rcases Nat.lt_or_eq_of_le hz1 with h | h
              · have := hd.mpr ⟨z0, hz0, h⟩
                rw [hdf] at this; cases this
              · rw [hz0, h]
            have ht : takerOf o (i : Int) [(⟨.all, [48], 0, (p : Int), l1', false⟩ : Sk), ⟨.first, [48], bB, (o.length : Int), l2', done⟩] = some 1 := by
              simp [takerOf, Sk.fit, fitB, wa, wf, la, h48, hip', hle, hbB, hdf, List.findIdx?_cons]
            rw [ht]
            show two 42 32 1 :: outF (two 42 32) o f (i + 1) [⟨.all, [48], 0, (p : Int), l1', false⟩, ⟨.first, [48], bB, (o.length : Int), some ((i : Int) + width .first [48]), true⟩] = _
            rw [ih (i + 1) _ _ true ⟨fun _ => ⟨i, hzi, by omega⟩, fun _ => rfl⟩ (by omega) (by omega)]
            have := h3 i hzi
            rw [hTs] at this
            rw [Option.some.inj this]; rfl
          · have hzi : z ≠ some i := fun e => by
              have hzz := hz i e
              refine hfit ⟨?_, hzz.1⟩
              cases hdd : done with
              | false => rfl
              | true =>
                obtain ⟨z0, hz0, hz1⟩ := hd.mp hdd
                rw [e] at hz0
                have := Option.some.inj hz0
                omega
            have ht : takerOf o (i : Int) [(⟨.all, [48], 0, (p : Int), l1', false⟩ : Sk), ⟨.first, [48], bB, (o.length : Int), l2', done⟩] = none := by
              have hno : ¬ (done = false ∧ bB ≤ (i : Int)) := fun h => hfit ⟨h.1, hbi.mp h.2⟩
              cases hdd : done with
              | true => simp [takerOf, Sk.fit, fitB, wa, hip', List.findIdx?_cons]
              | false =>
                have hbB : ¬ bB ≤ (i : Int) := fun h => hno ⟨hdd, h⟩
                simp [takerOf, Sk.fit, fitB, wa, hip', hbB, List.findIdx?_cons]
            rw [ht]
            show o[i] :: outF (two 42 32) o f (i + 1) [⟨.all, [48], 0, (p : Int), l1', false⟩, ⟨.first, [48], bB, (o.length : Int), l2', done⟩] = _
            rw [ih (i + 1) _ _ done ?_ (by omega) (by omega)]
            · have := h4 i _ (by omega) hzi ho
              rw [hTs] at this
              rw [Option.some.inj this]
            · constructor
              · intro e
                obtain ⟨z0, hz0, hz1⟩ := hd.mp e
                exact ⟨z0, hz0, by omega⟩
              · rintro ⟨z0, hz0, hz1⟩
                exact hd.mpr ⟨z0, hz0, by
                  rcases Nat.lt_or_eq_of_le (Nat.le_of_lt_succ hz1) with h | h
                  · exact h
                  · exact absurd (hz0.trans (by rw [h])) hzi⟩
      · have hzi : z ≠ some i := fun e => by
          have := (hz i e).2
          rw [ho] at this
          exact h48 (Option.some.inj this)
        have ht : takerOf o (i : Int) [(⟨.all, [48], 0, (p : Int), l1', false⟩ : Sk), ⟨.first, [48], bB, (o.length : Int), l2', done⟩] = none := by
          simp [takerOf, Sk.fit, fitB, la, h48, List.findIdx?_cons]
        rw [ht]
        show o[i] :: outF (two 42 32) o f (i + 1) [⟨.all, [48], 0, (p : Int), l1', false⟩, ⟨.first, [48], bB, (o.length : Int), l2', done⟩] = _
        rw [ih (i + 1) _ _ done ?_ (by omega) (by omega)]
        · have : T[i]? = some o[i] := by
            by_cases hip : i < p
            · exact h2 i _ hip ho h48
            · exact h4 i _ (by omega) hzi ho
          rw [hTs] at this
          rw [Option.some.inj this]
        · constructor
          · intro e
            obtain ⟨z0, hz0, hz1⟩ := hd.mp e
            exact ⟨z0, hz0, by omega⟩
          · rintro ⟨z0, hz0, hz1⟩
            exact hd.mpr ⟨z0, hz0, by
              rcases Nat.lt_or_eq_of_le (Nat.le_of_lt_succ hz1) with h | h
              · exact h
              · exact absurd (hz0.trans (by rw [h])) hzi⟩
    · have ho : o[i]? = none := List.getElem?_eq_none (by omega)
      rw [outF, ho, List.drop_of_length_le (by omega)]
end
theorem first_plc {o : Oct} {a : Int} : firstI o [a] = if plc o a < o.length then (plc o a : Int) else -1 := by
  by_cases h : plc o a < o.length
  · rw [if_pos h]
    have hx : o[plc o a]? = some a := by
      have := List.findIdx_getElem (xs := o) (p := (· == a)) (w := h)
      rw [List.getElem?_eq_getElem h]
      exact congrArg some (beq_iff_eq.mp this)
    refine firstI_at h (fun j hj => ?_) (by rw [lies_one, hx]; simp)
    have := List.not_of_lt_findIdx (xs := o) (p := (· == a)) (i := j) hj
    rw [lies_one, List.getElem?_eq_getElem (by omega)]
    simpa using this
  · rw [if_neg h]
    refine firstI_none fun j hj => ?_
    have := List.not_of_lt_findIdx (xs := o) (p := (· == a)) (i := j) (by show j < plc o a; omega)
    rw [lies_one, List.getElem?_eq_getElem hj]
    simpa using this
theorem part_repl {o T : Oct} {a : Int} {z : Option Nat} (hz : ∀ z0, z = some z0 → plc o a + 1 ≤ z0 ∧ o[z0]? = some 48) (hz2 : ∀ j, plc o a + 1 ≤ j → o[j]? = some 48 → ∃ z0, z = some z0 ∧ z0 ≤ j) (hT : T.length = o.length)
    (h1 : ∀ i, i < plc o a → o[i]? = some 48 → T[i]? = some 42) (h2 : ∀ i c, i < plc o a → o[i]? = some c → c ≠ 48 → T[i]? = some c) (h3 : ∀ i, z = some i → T[i]? = some 32) (h4 : ∀ i c, plc o a ≤ i → z ≠ some i → o[i]? = some c → T[i]? = some c) :
    repl2 o (allRow .zero (.text [42]) (some (.text [a])) none) ⟨.first, some .zero, .space, none, some (.text [a])⟩ = T := by
  have hp := plc_le o a
  show foldP (two [42] [32]) (two (1 : Int) 1) o (fitsF o o.length 0 [⟨.all, [48], 0, endOf o (some [a]), none, false⟩, ⟨.first, [48], beginOf o (some [a]), (o.length : Int), none, false⟩]) = T
  have he : endOf o (some [a]) = (plc o a : Int) := by
    rw [endOf, first_plc]
    split
    · rw [if_neg (by omega)]
    · rw [if_pos (by decide)]; omega
  have hb : ∀ i : Nat, i < o.length → (beginOf o (some [a]) ≤ (i : Int) ↔ plc o a + 1 ≤ i) := fun i hi => by
    rw [beginOf, first_plc]
    split
    · rw [if_neg (by omega)]
      show (plc o a : Int) + 1 ≤ (i : Int) ↔ _
      omega
    · rw [if_pos (by decide)]; omega
  rw [he]
  have := fold_out (two [42] [32]) (two (1 : Int) 1) (two 42 32) 2 o (fun n _ => two_at (g := fun x => [x]) n) (fun n _ => by unfold two; split <;> rfl) o.length 0
    [⟨.all, [48], 0, (plc o a : Int), none, false⟩, ⟨.first, [48], beginOf o (some [a]), (o.length : Int), none, false⟩] o
    (fun s hs => by rcases List.mem_cons.mp hs with rfl | hs; rfl; rcases List.mem_singleton.mp hs with rfl; rfl) rfl rfl rfl (by omega) (by omega)
  refine this.trans ?_
  rw [List.take_zero, List.nil_append, part_out hp hb hz hz2 hT h1 h2 h3 h4 o.length 0 none none false ⟨(by intro h; cases h), (by rintro ⟨z0, _, h⟩; omega)⟩ (by omega) (by omega), List.drop_zero]
theorem behL_eq (os : Oct) (p : Nat) : behL os p = (rangeKs ((p : Int) + 1) ((os.length : Int) - ((p : Int) + 1)).toNat).filter (fun k => decide (os.getD k.toNat 0 = 48)) := by
  have key : ∀ (ks l : List Int), ks.foldl (behG os) l = l ++ ks.filter (fun k => decide (os.getD k.toNat 0 = 48)) := by
    intro ks
    induction ks with
    | nil => intro l; simp
    | cons k ks ih =>
      intro l
      rw [List.foldl_cons, ih, behG]
      by_cases h : os.getD k.toNat 0 = 48
      · rw [if_pos h, List.filter_cons_of_pos (by simpa using h), List.append_assoc]; rfl
      · rw [if_neg h, List.filter_cons_of_neg (by simpa using h)]
  exact key _ []
theorem due_at {os : Oct} {p i : Nat} (hi : i < os.length) : (dueM os p)[i]? = some (dueG os p (i : Int)) := by
  rw [dueM, List.getElem?_map]
  have : (rangeKs 0 os.length)[i]? = some (i : Int) := by simp [rangeKs, hi]
  rw [this]; rfl
theorem getD_some' {os : Oct} {i : Nat} {c : Int} (h : os[i]? = some c) : os.getD ((i : Int)).toNat 0 = c := by
  rw [Int.toNat_natCast, List.getD_eq_getElem?_getD, h]; rfl
theorem due_1 {os : Oct} {p i : Nat} (hp : i < p) (h : os[i]? = some 48) : (dueM os p)[i]? = some 42 := by
  rw [due_at (List.getElem?_eq_some_iff.mp h).1, dueG_1 (by omega) (getD_some' h)]
theorem due_2 {os : Oct} {p i : Nat} {c : Int} (h : os[i]? = some c) (hc : c ≠ 48) : (dueM os p)[i]? = some c := by
  rw [due_at (List.getElem?_eq_some_iff.mp h).1, dueG_2 (by rw [getD_some' h]; exact hc), getD_some' h]
theorem due_3 {os : Oct} {p i : Nat} {c : Int} (hp : p ≤ i) (h : os[i]? = some c) : (dueM os p)[i]? = some c := by
  rw [due_at (List.getElem?_eq_some_iff.mp h).1, dueG_3 (by omega), getD_some' h]
theorem in_range {os : Oct} {p j : Nat} (h0 : p + 1 ≤ j) (h1 : j < os.length) : (j : Int) ∈ rangeKs ((p : Int) + 1) ((os.length : Int) - ((p : Int) + 1)).toNat :=
  List.mem_map.mpr ⟨j - (p + 1), List.mem_range.mpr (by omega), by omega⟩
theorem part_nil {os : Oct} {a : Int} (h : behL os (plc os a) = []) : repl2 os (allRow .zero (.text [42]) (some (.text [a])) none) ⟨.first, some .zero, .space, none, some (.text [a])⟩ = dueM os (plc os a) := by
  refine part_repl (z := none) (fun _ h => by cases h) (fun j hj h48 => ?_) (dueM_len _ _) (fun i hi h => due_1 hi h) (fun i c _ h hc => due_2 h hc) (fun _ h => by cases h) fun i c hi _ h => due_3 hi h
  rw [behL_eq, List.filter_eq_nil_iff] at h
  have := h (j : Int) (in_range hj (List.getElem?_eq_some_iff.mp h48).1)
  exact absurd (by rw [getD_some' h48]; rfl) this
theorem part_cons {os : Oct} {a i : Int} {r : List Int} (h : behL os (plc os a) = i :: r) : repl2 os (allRow .zero (.text [42]) (some (.text [a])) none) ⟨.first, some .zero, .space, none, some (.text [a])⟩ = (dueM os (plc os a)).set i.toNat 32 := by
  obtain ⟨hm0, hm1, hm2⟩ := behL_mem h
  have hi48 : os[i.toNat]? = some 48 := by rw [at_getD (by omega) hm1, hm2]
  have hfirst : ∀ j : Nat, plc os a + 1 ≤ j → os[j]? = some 48 → i.toNat ≤ j := fun j hj h48 => by
    have hf : (rangeKs ((plc os a : Int) + 1) ((os.length : Int) - ((plc os a : Int) + 1)).toNat).find? (fun k => decide (os.getD k.toNat 0 = 48)) = some i := by
      rw [← List.head?_filter, ← behL_eq, h]; rfl
    rw [rangeKs, List.find?_map, Option.map_eq_some_iff] at hf
    obtain ⟨n, hn, hni⟩ := hf
    rw [List.find?_range_eq_some] at hn
    obtain ⟨_, _, hmin⟩ := hn
    refine Nat.le_of_not_lt fun hlt => ?_
    have := hmin (j - (plc os a + 1)) (by omega)
    have ej : (plc os a : Int) + 1 + ((j - (plc os a + 1) : Nat) : Int) = (j : Int) := by omega
    simp only [Function.comp, ej, getD_some' h48] at this
    simp at this
  refine part_repl (z := some i.toNat) (fun z0 e => ?_) (fun j hj h48 => ⟨_, rfl, hfirst j hj h48⟩) (by rw [List.length_set, dueM_len]) (fun j hj h => ?_) (fun j c hj h hc => ?_) (fun j e => ?_) fun j c hj hne h => ?_
  · rw [← Option.some.inj e]; exact ⟨by omega, hi48⟩
  · rw [List.getElem?_set_ne (by omega)]; exact due_1 hj h
  · rw [List.getElem?_set_ne (by omega)]; exact due_2 h hc
  · rw [← Option.some.inj e, List.getElem?_set_self (by rw [dueM_len]; omega)]
  · rw [List.getElem?_set_ne (fun e => hne (by rw [e]))]; exact due_3 hj h
end PPartLaw
section PPart
theorem ix_lo1 {p : Nat} {k : Int} (h : (p : Int) + 1 ≤ k) : 0 ≤ k := by omega
theorem ix_hi0 {n k : Int} (h : k < 0 + n) : k < n := by omega
theorem intsAre_el {ys : List Value} {bl : List Int} (h : IntsAre ys bl) : (ys = [] ∧ bl = []) ∨ ∃ u t ys' ns', ys = .int u t :: ys' ∧ bl = u :: ns' ∧ IntsAre ys' ns' := by
  cases h with
  | nil => exact .inl ⟨rfl, rfl⟩
  | cons u t r => exact .inr ⟨u, t, _, _, rfl, rfl, r⟩
end PPart
section PLawDef
open PySem PySem.W PySem.Calls PySem.Spec PyProof.Rows PyProof.Rows.LCg
section
variable {prog : Program} {w : World} {p : Program} {loose : List Str} {mean : ExcName → Option Value} {mg mb : Str → Option Value}
  {dp un : Nat} {gd : Option (List Code)} {env : Env} {outer : List Env} {A₀ : Around} {base h₀ : Heap} {L : Addr} {m : Str → Option Value} {s : Shared} {Q E : Value → Shared → Prop}
/-- the written exchanges, called first: the table is filled -/
theorem written_use {f : Value} {D U : Nat} {pc : Addr} {oc : Obj} (C : CallOkC prog w p loose mean mg mb D U f [] [(235, tabObj #[])] (fun r led => r = .bool true ∧ FullT led))
    (B : Below A₀ base outer h₀) (F : Fr h₀ L s.heap m) (X : (hd.heap_39 w.params).In h₀) (N : News h₀ L s.heap [(pc, oc), (235, tabObj #[])]) (hn : @Ne Nat pc 235) (T : Top p loose mean mg mb h₀) (hf : env.frame = some L) (hk : env.scope.kind = .function) (hd : dp + D < recursionLimit) (hu : un + U < cLine) (hc : CodeHd base 239 235)
    (h : ∀ cA ocA cB ocB h' tk', Fr h₀ L h' m → LamC ocA → LamC ocB → News h₀ L h' [(pc, oc), (235, lamTab cA cB), (cA, ocA), (cB, ocB)] → @Ne Nat pc cA → @Ne Nat pc cB → Q (.bool true) { s with heap := h', toks := tk' }) :
    wpAny (model prog w) (TopA dp un gd env outer) (call f []) Q E s := by
  refine C _ _ _ _ _ _ _ _ _ _ _ _ _ B F X (fun q hq => N q (.tail _ hq)) T hf hk hd hu hc fun r led h' tk' F' N' b po => ?_
  obtain ⟨rfl, cA, ocA, cB, ocB, hA, hB, rfl⟩ := po
  have hN := (N (pc, oc) (.head _))
  have hp : ∀ p ∈ [((235 : Addr), tabObj #[])], p.1 ≠ pc := fun p hp => by
    rw [List.mem_singleton.mp hp]; exact Ne.symm hn
  refine h cA ocA cB ocB h' tk' F' hA hB (fun q hq => ?_) (Ne.symm (b.new _ (.tail _ (.head _)) pc oc hN.1 hp)) (Ne.symm (b.new _ (.tail _ (.tail _ (.head _))) pc oc hN.1 hp))
  rcases List.mem_cons.mp hq with rfl | hq
  · exact ⟨b.keep _ _ hN.1 hp, hN.2⟩
  · exact N' q hq
/-- a call that turns one object and leaves all else -/
theorem CallOk.useD {D U : Nat} {f : Value} {vs : List Value} {σ : Type} {pa : Addr} {o : Obj} {tl R news : Led} {new : σ → Obj} {post : Value → σ → Prop} (C : CallOk prog w p loose mean mg mb D U f vs ((pa, o) :: tl) (fun r led => ∃ c, post r c ∧ led = (pa, new c) :: tl))
    (B : Below A₀ base outer h₀) (F : Fr h₀ L s.heap m) (X : (hd.heap_39 w.params).In h₀) (N : News h₀ L s.heap news) (T : Top p loose mean mg mb h₀) (hf : env.frame = some L) (hk : env.scope.kind = .function) (hd : dp + D < recursionLimit) (hu : un + U < cLine)
    (hm : (pa, o) ∈ news) (ht : ∀ q ∈ tl, q ∈ news) (hR : ∀ q ∈ R, q ∈ news) (hoff : ∀ q ∈ R, q.1 ≠ pa)
    (h : ∀ r c h' tk', Fr h₀ L h' m → News h₀ L h' ((pa, new c) :: R) → post r c → Q r { s with heap := h', toks := tk' }) :
    wpAny (model prog w) (TopA dp un gd env outer) (call f vs) Q E s := by
  refine C _ _ _ _ _ _ _ _ _ _ _ _ _ B F X (fun q hq => ?_) T hf hk hd hu fun r led h' tk' F' N' b po => ?_
  · rcases List.mem_cons.mp hq with rfl | hq
    · exact N _ hm
    · exact N q (ht q hq)
  · obtain ⟨c, po, rfl⟩ := po
    refine h r c h' tk' F' (fun q hq => ?_) po
    rcases List.mem_cons.mp hq with rfl | hq
    · exact N' _ (.head _)
    · have hqn := N q (hR q hq)
      by_cases hq' : ∀ p ∈ (pa, o) :: tl, p.1 ≠ q.1
      · exact ⟨b.keep _ _ hqn.1 hq', hqn.2⟩
      · obtain ⟨p, hp, e⟩ : ∃ p ∈ (pa, o) :: tl, p.1 = q.1 := Classical.byContradiction fun hn => hq' fun p hp e => hn ⟨p, hp, e⟩
        rcases List.mem_cons.mp hp with rfl | hp
        · exact absurd e.symm (hoff q hq)
        · have e2 : p.2 = q.2 := Option.some.inj ((N p (ht p hp)).1.symm.trans (e ▸ hqn.1))
          have e3 : p = q := Prod.ext e e2
          subst e3
          exact N' p (.tail _ hp)
/-- the pen: the turn, what rests -/
structure PNW where
  turn : Int
  rest : Int
  t2 : Tok
  t3 : Tok
abbrev penO (ca : Addr) (n1 : Nat) (c : PNW) : Obj := listOf #[.ref ca, .int c.turn c.t2, .int c.rest c.t3] n1
theorem draw_use {D U : Nat} {f : Value} {vs : List Value} {pa ca : Addr} {cs : List Value} {n1 n2 : Nat} {turn rest many : Int} {t2 t3 : Tok} {R news : Led} (C : CallOk prog w p loose mean mg mb D U f vs [(pa, listOf #[.ref ca, .int turn t2, .int rest t3] n1), (ca, listOf cs.toArray n2)]
      (fun r led => ∃ k t turn' rest' t2' t3', r = .int k t ∧ 0 ≤ k ∧ k < many ∧ 0 ≤ turn' ∧ turn' ≤ turn + 1 ∧ led = [(pa, listOf #[.ref ca, .int turn' t2', .int rest' t3'] n1), (ca, listOf cs.toArray n2)]))
    (B : Below A₀ base outer h₀) (F : Fr h₀ L s.heap m) (X : (hd.heap_39 w.params).In h₀) (N : News h₀ L s.heap news) (T : Top p loose mean mg mb h₀) (hf : env.frame = some L) (hk : env.scope.kind = .function) (hd : dp + D < recursionLimit) (hu : un + U < cLine)
    (hm : (pa, listOf #[.ref ca, .int turn t2, .int rest t3] n1) ∈ news) (ht : (ca, listOf cs.toArray n2) ∈ news) (hR : ∀ q ∈ R, q ∈ news) (hoff : ∀ q ∈ R, q.1 ≠ pa)
    (h : ∀ k t turn' rest' t2' t3' h' tk', 0 ≤ k → k < many → 0 ≤ turn' → turn' ≤ turn + 1 → Fr h₀ L h' m → News h₀ L h' ((pa, listOf #[.ref ca, .int turn' t2', .int rest' t3'] n1) :: R) → Q (.int k t) { s with heap := h', toks := tk' }) :
    wpAny (model prog w) (TopA dp un gd env outer) (call f vs) Q E s := by
  refine CallOk.useD (σ := PNW) (new := penO ca n1) (post := fun r c => ∃ k t, r = .int k t ∧ 0 ≤ k ∧ k < many ∧ 0 ≤ c.turn ∧ c.turn ≤ turn + 1) (tl := [(ca, listOf cs.toArray n2)]) ?_ B F X N T hf hk hd hu hm (fun q hq => by rw [List.mem_singleton.mp hq]; exact ht) hR hoff fun r c h' tk' F' N' po => ?_
  · intro a1 a2 a3 a4 a5 a6 a7 a8 a9 a10 a11 a12 a13 b1 b2 b3 b4 b5 b6 b7 b8 b9 hr
    exact C a1 a2 a3 a4 a5 a6 a7 a8 a9 a10 a11 a12 a13 b1 b2 b3 b4 b5 b6 b7 b8 b9 fun r led h' tk' F' N' b po => hr r led h' tk' F' N' b (by
      obtain ⟨k, t, turn', rest', t2', t3', rfl, h1, h2, h3, h4, rfl⟩ := po
      exact ⟨⟨turn', rest', t2', t3'⟩, ⟨k, t, rfl, h1, h2, h3, h4⟩, rfl⟩)
  · obtain ⟨k, t, rfl, h1, h2, h3, h4⟩ := po
    exact h k t c.turn c.rest c.t2 c.t3 h' tk' h1 h2 h3 h4 F' N'
theorem pick_use {D U : Nat} {f : Value} {vs : List Value} {pa ca : Addr} {cs : List Value} {n1 n2 : Nat} {turn rest : Int} {l : Oct} {t2 t3 : Tok} {R news : Led} (C : CallOk prog w p loose mean mg mb D U f vs [(pa, listOf #[.ref ca, .int turn t2, .int rest t3] n1), (ca, listOf cs.toArray n2)]
      (fun r led => ∃ k t turn' rest' t2' t3', r = .int k t ∧ k ∈ l ∧ 0 ≤ turn' ∧ turn' ≤ turn + 1 ∧ led = [(pa, listOf #[.ref ca, .int turn' t2', .int rest' t3'] n1), (ca, listOf cs.toArray n2)]))
    (B : Below A₀ base outer h₀) (F : Fr h₀ L s.heap m) (X : (hd.heap_39 w.params).In h₀) (N : News h₀ L s.heap news) (T : Top p loose mean mg mb h₀) (hf : env.frame = some L) (hk : env.scope.kind = .function) (hd : dp + D < recursionLimit) (hu : un + U < cLine)
    (hm : (pa, listOf #[.ref ca, .int turn t2, .int rest t3] n1) ∈ news) (ht : (ca, listOf cs.toArray n2) ∈ news) (hR : ∀ q ∈ R, q ∈ news) (hoff : ∀ q ∈ R, q.1 ≠ pa)
    (h : ∀ k t turn' rest' t2' t3' h' tk', k ∈ l → 0 ≤ turn' → turn' ≤ turn + 1 → Fr h₀ L h' m → News h₀ L h' ((pa, listOf #[.ref ca, .int turn' t2', .int rest' t3'] n1) :: R) → Q (.int k t) { s with heap := h', toks := tk' }) :
    wpAny (model prog w) (TopA dp un gd env outer) (call f vs) Q E s := by
  refine CallOk.useD (σ := PNW) (new := penO ca n1) (post := fun r c => ∃ k t, r = .int k t ∧ k ∈ l ∧ 0 ≤ c.turn ∧ c.turn ≤ turn + 1) (tl := [(ca, listOf cs.toArray n2)]) ?_ B F X N T hf hk hd hu hm (fun q hq => by rw [List.mem_singleton.mp hq]; exact ht) hR hoff fun r c h' tk' F' N' po => ?_
  · intro a1 a2 a3 a4 a5 a6 a7 a8 a9 a10 a11 a12 a13 b1 b2 b3 b4 b5 b6 b7 b8 b9 hr
    exact C a1 a2 a3 a4 a5 a6 a7 a8 a9 a10 a11 a12 a13 b1 b2 b3 b4 b5 b6 b7 b8 b9 fun r led h' tk' F' N' b po => hr r led h' tk' F' N' b (by
      obtain ⟨k, t, turn', rest', t2', t3', rfl, h1, h3, h4, rfl⟩ := po
      exact ⟨⟨turn', rest', t2', t3'⟩, ⟨k, t, rfl, h1, h3, h4⟩, rfl⟩)
  · obtain ⟨k, t, rfl, h1, h3, h4⟩ := po
    exact h k t c.turn c.rest c.t2 c.t3 h' tk' h1 h3 h4 F' N'
theorem pickl_use {D U : Nat} {f : Value} {vs : List Value} {pa ca sa : Addr} {cs : List Value} {n1 n2 n3 : Nat} {turn rest : Int} {t2 t3 v1 v2 v3 : Tok} {b1 b2 b3 : Array UInt8} {R news : Led} (C : CallOk prog w p loose mean mg mb D U f vs [(pa, listOf #[.ref ca, .int turn t2, .int rest t3] n1), (ca, listOf cs.toArray n2), (sa, listOf #[.bytes b1 v1, .bytes b2 v2, .bytes b3 v3] n3)]
      (fun r led => ∃ k t turn' rest' t2' t3', r = .bytes k t ∧ (k = b1 ∨ k = b2 ∨ k = b3) ∧ 0 ≤ turn' ∧ turn' ≤ turn + 1 ∧ led = [(pa, listOf #[.ref ca, .int turn' t2', .int rest' t3'] n1), (ca, listOf cs.toArray n2), (sa, listOf #[.bytes b1 v1, .bytes b2 v2, .bytes b3 v3] n3)]))
    (B : Below A₀ base outer h₀) (F : Fr h₀ L s.heap m) (X : (hd.heap_39 w.params).In h₀) (N : News h₀ L s.heap news) (T : Top p loose mean mg mb h₀) (hf : env.frame = some L) (hk : env.scope.kind = .function) (hd : dp + D < recursionLimit) (hu : un + U < cLine)
    (hm : (pa, listOf #[.ref ca, .int turn t2, .int rest t3] n1) ∈ news) (ht : (ca, listOf cs.toArray n2) ∈ news) (hs : (sa, listOf #[.bytes b1 v1, .bytes b2 v2, .bytes b3 v3] n3) ∈ news) (hR : ∀ q ∈ R, q ∈ news) (hoff : ∀ q ∈ R, q.1 ≠ pa)
    (h : ∀ k t turn' rest' t2' t3' h' tk', (k = b1 ∨ k = b2 ∨ k = b3) → 0 ≤ turn' → turn' ≤ turn + 1 → Fr h₀ L h' m → News h₀ L h' ((pa, listOf #[.ref ca, .int turn' t2', .int rest' t3'] n1) :: R) → Q (.bytes k t) { s with heap := h', toks := tk' }) :
    wpAny (model prog w) (TopA dp un gd env outer) (call f vs) Q E s := by
  refine CallOk.useD (σ := PNW) (new := penO ca n1) (post := fun r c => ∃ k t, r = .bytes k t ∧ (k = b1 ∨ k = b2 ∨ k = b3) ∧ 0 ≤ c.turn ∧ c.turn ≤ turn + 1) (tl := [(ca, listOf cs.toArray n2), (sa, listOf #[.bytes b1 v1, .bytes b2 v2, .bytes b3 v3] n3)]) ?_ B F X N T hf hk hd hu hm (fun q hq => ?_) hR hoff fun r c h' tk' F' N' po => ?_
  · intro a1 a2 a3 a4 a5 a6 a7 a8 a9 a10 a11 a12 a13 b1 b2 b3 b4 b5 b6 b7 b8 b9 hr
    exact C a1 a2 a3 a4 a5 a6 a7 a8 a9 a10 a11 a12 a13 b1 b2 b3 b4 b5 b6 b7 b8 b9 fun r led h' tk' F' N' b po => hr r led h' tk' F' N' b (by
      obtain ⟨k, t, turn', rest', t2', t3', rfl, h1, h3, h4, rfl⟩ := po
      exact ⟨⟨turn', rest', t2', t3'⟩, ⟨k, t, rfl, h1, h3, h4⟩, rfl⟩)
  · rcases List.mem_cons.mp hq with rfl | hq
    · exact ht
    · rw [List.mem_singleton.mp hq]; exact hs
  · obtain ⟨k, t, rfl, h1, h3, h4⟩ := po
    exact h k t c.turn c.rest c.t2 c.t3 h' tk' h1 h3 h4 F' N'
end
/-- the list of a comprehension over the pen -/
structure JP (l D : Addr) (n1 : Nat) (R : Led) (T : Int) (oc : Oct) (i : Nat) (ys : List Value) (nx : Led) : Prop where
  h : ∃ (turn rest : Int) (t2 t3 : Tok) (ns : Oct), nx = (l, listOf #[.ref D, .int turn t2, .int rest t3] n1) :: R ∧ IntsAre ys ns ∧ ns.length = i ∧ (∀ n ∈ ns, n ∈ oc) ∧ 0 ≤ turn ∧ turn ≤ T + (i : Int)
theorem JP.zero {l D : Addr} {n1 : Nat} {R : Led} {oc : Oct} {turn rest : Int} {t2 t3 : Tok} (h1 : 0 ≤ turn) : JP l D n1 R turn oc 0 [] ((l, listOf #[.ref D, .int turn t2, .int rest t3] n1) :: R) :=
  ⟨turn, rest, t2, t3, [], rfl, .nil, rfl, (fun _ h => nomatch h), h1, by simp⟩
theorem intsAre_push {ys : List Value} {ns : List Int} {k : Int} {t : Tok} (h : IntsAre ys ns) : IntsAre (ys ++ [.int k t]) (ns ++ [k]) := by
  induction h with
  | nil => exact .cons _ _ .nil
  | cons i tk _ ih => exact .cons i tk ih
theorem JP.step {l D : Addr} {n1 : Nat} {R : Led} {T : Int} {oc ns : Oct} {i : Nat} {ys : List Value} {turn rest k : Int} {t t2 t3 : Tok} (hi : IntsAre ys ns) (hl : ns.length = i) (hm : ∀ n ∈ ns, n ∈ oc) (hk : k ∈ oc) (h1 : 0 ≤ turn) (h2 : turn ≤ T + (i : Int) + 1) : JP l D n1 R T oc (i + 1) (ys ++ [.int k t]) ((l, listOf #[.ref D, .int turn t2, .int rest t3] n1) :: R) :=
  ⟨turn, rest, t2, t3, ns ++ [k], rfl, intsAre_push hi, by simp [hl], (fun n hn => by
    rcases List.mem_append.mp hn with h | h
    · exact hm n h
    · rw [List.mem_singleton.mp h]; exact hk), h1, by push_cast; show turn ≤ _; omega⟩
theorem pick3 {x y z : UInt8} {k : Array UInt8} (h : k = #[x] ∨ k = #[y] ∨ k = #[z]) : ∃ b, KBw.bInts k = [b] ∧ (b = (x.toNat : Int) ∨ b = (y.toNat : Int) ∨ b = (z.toNat : Int)) := by
  rcases h with rfl | rfl | rfl
  · exact ⟨_, rfl, .inl rfl⟩
  · exact ⟨_, rfl, .inr (.inl rfl)⟩
  · exact ⟨_, rfl, .inr (.inr rfl)⟩
theorem pow_ten {prog : Program} {w : World} {A : Around} {E : Value → Shared → Prop} {s : Shared} {Q : Value → Shared → Prop} {n : Int} {t u : Tok} (h0 : 0 ≤ n) (h1 : n ≤ 9) (h : ∀ z, 1 ≤ z → z ≤ 1000000000 → z = ((10 ^ n.toNat : Nat) : Int) → Q (.int z s.toks) { s with toks := s.toks + 1 }) :
    wpAny (model prog w) A (binaryOp .Pow (.int 10 t) (.int n u)) Q E s := by
  refine pow_int_small h0 (by omega) (by decide) ?_
  have e : (10 : Int) ^ n.toNat = ((10 ^ n.toNat : Nat) : Int) := by push_cast; rfl
  have h2 : 10 ^ n.toNat ≤ 10 ^ 9 := Nat.pow_le_pow_right (by decide) (by omega)
  have h3 : 0 < 10 ^ n.toNat := Nat.pow_pos (by decide)
  exact h _ (by rw [e]; omega) (by rw [e]; omega) e
theorem ten_le {number z e wd : Int} (h : number < z) (hz : z = ((10 ^ e.toNat : Nat) : Int)) (he : e ≤ wd) : number < ((10 ^ wd.toNat : Nat) : Int) := by
  have : 10 ^ e.toNat ≤ 10 ^ wd.toNat := Nat.pow_le_pow_right (by decide) (by omega)
  omega
theorem noughts_int {prog : Program} {w : World} {p : Program} {loose : List Str} {mean : ExcName → Option Value} {mg mb : Str → Option Value} {D U : Nat} {f : Value} {number wd : Int} {t1 t2 : Tok} {pre : Led} {post : Value → Led → Prop} (h0 : 1 ≤ wd) (h9 : wd ≤ 9) (hn : number < ((10 ^ wd.toNat : Nat) : Int))
    (C : ∀ {width : Nat}, number < ((10 ^ width : Nat) : Int) → (1 ≤ width ∧ width ≤ 9) → CallOkC prog w p loose mean mg mb D U f [.int number t1, .int (width : Int) t2] pre post) : CallOkC prog w p loose mean mg mb D U f [.int number t1, .int wd t2] pre post := by
  have e : ((wd.toNat : Nat) : Int) = wd := by omega
  have h := C (width := wd.toNat) hn (by omega)
  rw [e] at h
  exact h
theorem rot4 {a b c d : Addr × Obj} {R : Led} : ∀ p ∈ b :: c :: d :: a :: R, p ∈ a :: b :: c :: d :: R := fun p hp => by
  simp only [List.mem_cons] at hp ⊢
  rcases hp with h | h | h | h | h <;> simp [h]
theorem rot3 {a b c d : Addr × Obj} {R : Led} : ∀ p ∈ b :: c :: d :: R, p ∈ b :: c :: d :: a :: R := fun p hp => by
  simp only [List.mem_cons] at hp ⊢
  rcases hp with h | h | h | h <;> simp [h]
theorem off4 {l I C D : Addr} {o oI oC oD : Obj} {R : Led} (off : Off3 I C D ((l, o) :: R)) (h : ∀ q ∈ R, q.1 ≠ l) : ∀ q ∈ (I, oI) :: (C, oC) :: (D, oD) :: R, q.1 ≠ l := fun q hq => by
  rcases List.mem_cons.mp hq with rfl | hq
  · exact Ne.symm off.1.1
  rcases List.mem_cons.mp hq with rfl | hq
  · exact Ne.symm off.1.2.1
  rcases List.mem_cons.mp hq with rfl | hq
  · exact Ne.symm off.1.2.2
  · exact h q hq
theorem draws_rng {ns : Oct} (h : ∀ n ∈ ns, n ∈ ([48, 48, 49, 50, 48, 51, 57, 44] : Oct)) : ∀ n ∈ ns, 0 ≤ n ∧ n < 256 := fun n hn => by
  have := h n hn
  simp only [List.mem_cons, List.not_mem_nil, or_false] at this
  omega
end PLawDef
section PLawLoop
open PySem PySem.W PySem.Calls PySem.Spec PyProof.Rows PyProof.Rows.LCg
section
variable {prog : Program} {w : World} {A : Around} {E : Value → Shared → Prop} {s : Shared} {env : Env} {h₀ : Heap} {x : Str} {body : List Stmt} {Q : Flow → Shared → Prop}
/-- a turn's end: the pen has gone on, all else of the ledger stands -/
def LEnd (h₀ : Heap) (L l D : Addr) (n1 : Nat) (R : Led) (stored : List Str) (m₀ : Str → Option Value) (turn : Int) (s₁ s₂ : Shared) : Prop :=
  ∃ (turn' rest' : Int) (t2' t3' : Tok) (h' : Heap) (tk : Nat) (m' : Str → Option Value), s₂ = { s₁ with heap := h', toks := tk } ∧ Fr h₀ L h' m' ∧ News h₀ L h' ((l, listOf #[.ref D, .int turn' t2', .int rest' t3'] n1) :: R) ∧ 0 ≤ turn' ∧ turn' ≤ turn + 50 ∧ ∀ z, stored.contains z = false → m' z = m₀ z
theorem LEnd.mk {h₀ h' : Heap} {L l D : Addr} {n1 tk : Nat} {R : Led} {stored : List Str} {m₀ m' : Str → Option Value} {turn turn' rest' : Int} {t2' t3' : Tok} {s₁ : Shared} (F : Fr h₀ L h' m') (N : News h₀ L h' ((l, listOf #[.ref D, .int turn' t2', .int rest' t3'] n1) :: R)) (h0 : 0 ≤ turn') (h1 : turn' ≤ turn + 50) (hm : ∀ z, stored.contains z = false → m' z = m₀ z) :
    LEnd h₀ L l D n1 R stored m₀ turn s₁ { s₁ with heap := h', toks := tk } := ⟨_, _, _, _, _, _, _, rfl, F, N, h0, h1, hm⟩
def LPost (h₀ : Heap) (L l D : Addr) (n1 : Nat) (R : Led) (stored : List Str) (m₀ : Str → Option Value) (turn : Int) (s₁ : Shared) (Q : Flow → Shared → Prop) (f : Flow) (s₂ : Shared) : Prop :=
  match f with
  | .ret v => Q (.ret v) s₂
  | .brk => Q .next s₂
  | _ => LEnd h₀ L l D n1 R stored m₀ turn s₁ s₂
theorem law_loop {r l D a1 a2 pc cA cB : Addr} {n1 : Nat} {ys : List Value} {ns : List Int} {n2 : Nat} {o1 oc ocA ocB ot : Obj} {t₀ u₀ v₀ t2 t3 : Tok} {m₀ : Str → Option Value} (stored : List Str) (hx : stored.contains x = true)
    (hi : IntsAre ys ns) (hlen : ns.length ≤ 64) (hh : A.handled = none) (hr : IsRange s.heap r 0 2 1 t₀ u₀ v₀) (F : Fr h₀ env.locals s.heap m₀)
    (N : News h₀ env.locals s.heap [(l, penO D n1 ⟨0, 0, t2, t3⟩), (D, listOf ys.toArray n2), (a1, o1), (pc, oc), (a2, ot), (cA, ocA), (cB, ocB)]) (hlt : D < l ∧ a1 < l ∧ pc < l ∧ a2 < l ∧ cA < l ∧ cB < l)
    (turn : ∀ (pt pr : Int) (t2 t3 : Tok) (u : Str → Option Value) h tk own, 0 ≤ pt → pt ≤ 100 → IntsAre ys ns → ns.length ≤ 64 → (∀ q ∈ (D, listOf ys.toArray n2) :: (pc, oc) :: (a2, ot) :: (cA, ocA) :: (cB, ocB) :: own, q.1 ≠ l) →
      Fr h₀ env.locals h (fun y => if stored.contains y then u y else m₀ y) → News h₀ env.locals h ((l, listOf #[.ref D, .int pt t2, .int pr t3] n1) :: (D, listOf ys.toArray n2) :: (pc, oc) :: (a2, ot) :: (cA, ocA) :: (cB, ocB) :: own) →
      wpAny (model prog w) A (execs body env) (LPost h₀ env.locals l D n1 ((D, listOf ys.toArray n2) :: (pc, oc) :: (a2, ot) :: (cA, ocA) :: (cB, ocB) :: own) stored m₀ pt { s with heap := h, toks := tk } Q) E { s with heap := h, toks := tk })
    (done : ∀ (u : Str → Option Value) h tk ol, Fr h₀ env.locals h (fun y => if stored.contains y then u y else m₀ y) → News h₀ env.locals h [(l, ol), (D, listOf ys.toArray n2), (pc, oc), (a2, ot), (cA, ocA), (cB, ocB)] → Q .next { s with heap := h, toks := tk }) :
    wpAny (model prog w) A (pyIter (.ref r)) (fun it s₂ => LoopAtV prog w A h₀ env x body Q E it s₂) E s := by
  have ne_of_lt' : ∀ {a b : Nat}, a < b → a ≠ b := fun h => Nat.ne_of_lt h
  refine kst_range (σ := PNW) (n := 2) (m₀ := m₀) (fun c => [(l, penO D n1 c), (D, listOf ys.toArray n2), (pc, oc), (a2, ot), (cA, ocA), (cB, ocB)]) (fun _ => []) (fun _ => True) stored (fun pre c => 0 ≤ c.turn ∧ c.turn ≤ 50 * (pre.length : Int)) ⟨0, 0, t2, t3⟩
    hh hr (by decide) (by decide) F (News.sub N fun q hq => ?_) trivial (fun p hp => nomatch hp) ⟨Int.le_refl 0, by simp⟩ ?_ ?_
  · simp only [List.mem_cons, List.not_mem_nil, or_false] at hq ⊢
    rcases hq with h | h | h | h | h | h <;> simp [h]
  · intro c pre k t u h tk own hk hpre hown _ hP F' N'
    have em : (fun y => if y = x then some (Value.int k t) else kstB (fun z => if stored.contains z then u z else m₀ z) [] y) = fun y => if stored.contains y then (if y = x then some (Value.int k t) else u y) else m₀ y := by
      funext y
      by_cases hy : y = x
      · rw [if_pos hy, hy, if_pos hx]; try simp
      · simp only [if_neg hy]; rfl
    rw [em] at F'
    have hpl : ∀ q ∈ (D, listOf ys.toArray n2) :: (pc, oc) :: (a2, ot) :: (cA, ocA) :: (cB, ocB) :: own, q.1 ≠ l := by
      intro q hq
      simp only [List.mem_cons] at hq
      rcases hq with rfl | rfl | rfl | rfl | rfl | hq
      · exact ne_of_lt' hlt.1
      · exact ne_of_lt' hlt.2.2.1
      · exact ne_of_lt' hlt.2.2.2.1
      · exact ne_of_lt' hlt.2.2.2.2.1
      · exact ne_of_lt' hlt.2.2.2.2.2
      · exact hown q hq l (by simp)
    refine wpAny_mono (turn c.turn c.rest c.t2 c.t3 _ h tk own hP.1 (by have := hP.2; omega) hi hlen hpl F' N') (fun f s₂ hf => ?_) fun _ _ e => e
    have key : LEnd h₀ env.locals l D n1 ((D, listOf ys.toArray n2) :: (pc, oc) :: (a2, ot) :: (cA, ocA) :: (cB, ocB) :: own) stored m₀ c.turn { s with heap := h, toks := tk } s₂ →
        InvEndN h₀ env.locals (KstS (fun c => [(l, penO D n1 c), (D, listOf ys.toArray n2), (pc, oc), (a2, ot), (cA, ocA), (cB, ocB)]) (fun _ => []) (fun _ => True) x stored m₀ (fun pre c => 0 ≤ c.turn ∧ c.turn ≤ 50 * (pre.length : Int)) (pre ++ [k])) own ([(l, penO D n1 ⟨0, 0, t2, t3⟩), (D, listOf ys.toArray n2), (pc, oc), (a2, ot), (cA, ocA), (cB, ocB)].map (·.1)) { s with heap := h, toks := tk } s₂ := by
      rintro ⟨pt', pr', t2', t3', h', tk', m', rfl, F2, N2, h1, h2, hm⟩
      refine InvEndN.intro F2 N2 ⟨⟨pt', pr', t2', t3'⟩, rfl, trivial, (fun p hp => nomatch hp), (fun z _ _ hz => hm z hz), h1, ?_⟩ rfl (fun q hq => ?_) (fun q hq => ?_)
      · have h3 := hP.2
        have e : ((pre ++ [k]).length : Int) = (pre.length : Int) + 1 := by simp
        rw [e]; show pt' ≤ _; omega
      · simp only [List.mem_cons, List.not_mem_nil, or_false] at hq ⊢
        rcases hq with h | h | h | h | h | h <;> simp [h]
      · simp [hq]
    cases f with
    | ret v => exact hf
    | brk => exact hf
    | next => exact key hf
    | cont => exact key hf
  · intro c u h tk _ hP F' N'
    have em : (fun y => if y = x then u y else kstB (fun z => if stored.contains z then u z else m₀ z) [] y) = fun y => if stored.contains y then u y else m₀ y := by
      funext y
      by_cases hy : y = x
      · rw [if_pos hy, hy, if_pos hx]; try simp
      · simp only [if_neg hy]; rfl
    rw [em] at F'
    exact done u h tk _ F' N'
end
end PLawLoop
section PLaw
theorem lt_l {a b : Nat} {o : Obj} {l : Led} (h : ∀ p ∈ l, p.1 < b) (hm : ((a : Addr), o) ∈ l) : a < b := h _ hm
end PLaw
open Lean in
local macro_rules
  | `(tactic| intro $xs:term*) => do
    if xs.size == 0 then Macro.throwUnsupported
    let is : Array Ident ← xs.mapM fun x => if x.raw.isIdent then pure ⟨x.raw⟩ else if x.raw.getKind == ``Lean.Parser.Term.hole then (do return mkIdent (← Macro.addMacroScope `x)) else Macro.throwUnsupported
    let go (k : Nat) : MacroM Syntax := do
      if k == xs.size then return ← `(tactic| skip)
      else
        let ts := xs.extract k xs.size
        return ← `(tactic| intro $ts:term*)
    let i := is[0]!
    let t1 : TSyntax `tactic := ⟨← go 1⟩
    let d1 ← `(tactic| (refine no_implicit_lambda% (eps_all ?epsN (G := ?epsG) ((have $i := eps ?epsN ?epsG; (?epsB : ?epsG $i)) :)); (case epsN => k_extra "ne9")))
    let r1 ← `(tactic| first | ($d1:tactic; $t1:tactic) | ((fail_if_success $d1:tactic); intros $i; $t1:tactic))
    if xs.size == 1 then return r1
    let j := is[1]!
    let t2 : TSyntax `tactic := ⟨← go 2⟩
    let d2 ← `(tactic| (refine no_implicit_lambda% (eps_all2 ?epsN ?epsM (G := ?epsG) ((have $i := e21 ?epsN ?epsM ?epsG; have $j := e22 ?epsN ?epsM ?epsG; (?epsB : ?epsG $i $j)) :)); (case epsN => k_extra "ne9"); (case epsM => k_extra "ne9")))
    let r2 ← `(tactic| first | ($d2:tactic; $t2:tactic) | ((fail_if_success $d2:tactic); $r1:tactic))
    if xs.size == 2 then return r2
    let k := is[2]!
    let t3 : TSyntax `tactic := ⟨← go 3⟩
    let d3 ← `(tactic| (refine no_implicit_lambda% (eps_all3 ?epsN ?epsM ?epsL (G := ?epsG) ((have $i := e31 ?epsN ?epsM ?epsL ?epsG; have $j := e32 ?epsN ?epsM ?epsL ?epsG; have $k := e33 ?epsN ?epsM ?epsL ?epsG; (?epsB : ?epsG $i $j $k)) :)); (case epsN => k_extra "ne9"); (case epsM => k_extra "ne9"); (case epsL => k_extra "ne9")))
    let r3 ← `(tactic| first | ($d3:tactic; $t3:tactic) | ((fail_if_success $d3:tactic); $r2:tactic))
    if xs.size == 3 then return r3
    let l := is[3]!
    let t4 : TSyntax `tactic := ⟨← go 4⟩
    let d4 ← `(tactic| (refine no_implicit_lambda% (eps_all4 ?epsN ?epsM ?epsL ?epsK (G := ?epsG) ((have $i := e41 ?epsN ?epsM ?epsL ?epsK ?epsG; have $j := e42 ?epsN ?epsM ?epsL ?epsK ?epsG; have $k := e43 ?epsN ?epsM ?epsL ?epsK ?epsG; have $l := e44 ?epsN ?epsM ?epsL ?epsK ?epsG; (?epsB : ?epsG $i $j $k $l)) :)); (case epsN => k_extra "ne9"); (case epsM => k_extra "ne9"); (case epsL => k_extra "ne9"); (case epsK => k_extra "ne9")))
    `(tactic| first | ($d4:tactic; $t4:tactic) | ((fail_if_success $d4:tactic); $r3:tactic))
open Lean in
local macro_rules
  | `(tactic| obtain $pat:rcasesPatMed := $v:term) => do
    let tup := ``Lean.Parser.Tactic.rcasesPat.tuple
    let has (s : Syntax) : Bool := (s.find? fun n => n.getKind == tup).isSome
    if pat.raw[0].getSepArgs.size > 1 then return ← `(tactic| rcases $v:term with $pat:rcasesPatMed)
    let top := pat.raw[0][0]
    if top.getKind == tup && top[1].getSepArgs.any has then
      let mut els : Array (TSyntax ``Lean.Parser.Tactic.rcasesPatLo) := #[]
      let mut rest : Array (TSyntax `tactic) := #[]
      for el in top[1].getSepArgs do
        if has el then
          let i := mkIdent (← Macro.addMacroScope (Name.mkSimple s!"zr{els.size}"))
          els := els.push (← `(Lean.Parser.Tactic.rcasesPatLo| $i:ident))
          let q : TSyntax ``Lean.Parser.Tactic.rcasesPatMed := ⟨el[0]⟩
          rest := rest.push (← `(tactic| obtain $q:rcasesPatMed := $i:ident))
        else els := els.push ⟨el⟩
      let first ← `(tactic| obtain ⟨$els,*⟩ := $v:term)
      return ← `(tactic| ($first; $[$rest];*))
    let step (s : Syntax) : StateT (Nat × Array (TSyntax `ident) × Array (TSyntax `ident)) MacroM Syntax := do
      let (k, xs, es) ← get
      if s.getKind == ``Lean.Parser.Tactic.rcasesPat.ignore then
        let i := mkIdent (← Macro.addMacroScope (Name.mkSimple s!"zq{k}"))
        set (k + 1, xs.push i, es)
        return (← `(rcasesPat| $i:ident)).raw
      else if s.isIdent then
        if s.getId.eraseMacroScopes == `rfl then
          let i := mkIdent (← Macro.addMacroScope (Name.mkSimple s!"ze{k}"))
          set (k + 1, xs.push i, es.push i)
          return i.raw
        else
          set (k, xs.push ⟨s⟩, es)
          return s
      else return s
    let (p, _, xs, es) ← (pat.raw.rewriteBottomUpM step).run (0, #[], #[])
    let pat : TSyntax ``Lean.Parser.Tactic.rcasesPatMed := ⟨p⟩
    let ts : Array Term := xs.map fun x => ⟨x.raw⟩
    let sub ← if es.isEmpty then `(tactic| skip) else `(tactic| subst $es*)
    if xs.isEmpty then `(tactic| rcases $v:term with $pat:rcasesPatMed)
    else `(tactic| (rcases $v:term with $pat:rcasesPatMed; revert $xs*; intro $ts:term*; (set_option tactic.hygienic false in intros); $sub:tactic))
local macro_rules | `(tactic| ktu_obj) => `(tactic| k_extra "ktu_obj")
local macro_rules | `(tactic| walk_at $s:str) => `(tactic| k_extra $s)
local macro_rules | `(tactic| k_mem) => `(tactic| k_extra "k_mem")
local macro_rules | `(tactic| k_all) => `(tactic| k_extra "k_all")
local macro_rules | `(tactic| k_lt $h) => `(tactic| k_extra "k_lt_skip")
local macro_rules | `(tactic| cell_step) => `(tactic| (refine wpAny_call ?_; k_dflt (refine' code_here ?k1 ?k2 ?k3 ?k4 ?k5 ?kA ?kF ?kK ?k6 ?k7 ?k8 ?k9 ?kB ?_ ?c2 ?c3 ?c4 ?c5; (case kA => exact rfl); (case kF => assumption); (case kK => assumption); (case k1 => k_asm); (case k2 => k_asm); (case k3 => k_asm); (case k4 => k_asm); (case k5 => k_asm); (case k6 => k_is); (case k7 => k_is); (case k8 => ktr_room); (case k9 => exact BindsTo.of_eq rfl); (case c5 => decide); (case kB => exact locs rfl); (case c2 => exact rfl); (case c3 => exact rfl); (case c4 => exact rfl); k_whole; intro g' L' h' S' FG' F' N' B' X' T' l1; (try k_lt l1); (try dsimp only); (try k_lift B'); (try k_fold))))
local macro_rules | `(tactic| ktr_rel) => `(tactic| (
  (case B => k_asm); (case F => k_asm); (case X => k_asm); (case N => k_asm); (case T => k_asm); (case hf => exact rfl); (case hk => first | exact rfl | assumption); (case hd => ktr_room); (case hu => ktr_units);
  (case P => repeat' (first | exact Part.nil | exact Part.rest | apply Part.take | apply Part.skip));
  (case ap => first | exact apart_nil _ | (repeat' (first | exact True.intro | exact apart_own (by assumption) (by repeat' (first | exact List.forall_mem_nil _ | (refine List.forall_mem_cons.mpr ?_; refine And.intro (by k_memK) ?_))) | (refine And.intro ?_ ?_) | exact List.forall_mem_nil _ | k_all)));
  k_whole))
local macro_rules | `(tactic| ktr_unf) => `(tactic| (refine InvEndN.intro (by assumption) (by assumption) ?_ (by rfl) (by (with_unfolding_all ((try simp only [List.nil_append, List.cons_append]); k_allIn))) (by (intro p hp; k_ownIn))))
local macro_rules | `(tactic| k_room) => `(tactic| ktr_room)
local macro_rules | `(tactic| k_units) => `(tactic| ktr_units)
local macro_rules | `(tactic| units_room) => `(tactic| ktr_units)
local macro_rules | `(tactic| k_ne) => `(tactic| (refine neN ?_; (try dsimp only); first | with_reducible assumption | exact Ne.symm (by with_reducible assumption) | k_extra "k_ne" | omega))
local macro_rules | `(tactic| ktr_room) => `(tactic| k_extra "room")
local macro_rules | `(tactic| ktr_units) => `(tactic| k_extra "units")
local macro_rules | `(tactic| w_call $k $ho $hd $hcd $hD $T $F) => `(tactic| (have he := Dflts.none $hD rfl; subst he; have he := Dflts.noKw $hD; subst he; refine call_cellsN (by decide) $ho (fd_plain $hd) (Top.nolimit $T) $hcd rfl (kinds_of (by kinds_ok)) (by decide) ?_; intro h₁ tk₁ cells $F:ident N0 X0; cells_open X0))
local macro_rules | `(tactic| k_in) => `(tactic| first | with_reducible assumption | exact Frag.In.keeps (by with_reducible assumption) (Fr.keep (by with_reducible assumption)))
section SLiesAt
section
variable {prog : Program} {w : World} {p : Program} {loose : List Str} {mean : ExcName → Option Value} {mg mb : Str → Option Value}
set_option maxRecDepth 100000 in
set_option maxHeartbeats 8000000 in
theorem lies_at_ok {o x : Array UInt8} {os xs : Oct} {i : Int} {t1 t2 t3 : Tok} (ho : KBw.bInts o = os) (hx : KBw.bInts x = xs) (lo : os.length ≤ 64) (lx : xs.length ≤ 64) (h0 : 0 ≤ i) :
    CallOk prog w p loose mean mg mb 1 8 (.ref 69) [.bytes o t1, .bytes x t2, .int i t3] [] (fun r led => led = [] ∧ r = .bool (liesAt os xs i.toNat)) :=
  @ofTag _ _ (by exact tag_triv : Tag (by
  k_with_none
  w_top off
  k_with "ne9" => (first | exact ne_Nat | exact ne_Heap | exact ne_Value | exact ne_Str | exact ne_Int | exact ne_Env | exact ne_Shared | exact ne_Around | exact ne_Program | exact ne_World | exact ne_List | exact ne_Option | exact ne_Arr | exact ne_Obj | exact ne_FuncData | exact ne_prod ne_Nat ne_Obj | exact ne_fun ne_Prop | exact ne_fun (ne_fun ne_Prop) | exact ne_fun ne_Option | exact ⟨Kd.chars⟩ | exact ⟨Opd.zero⟩ | (refine ⟨?_⟩; exact default) | (refine ⟨?_⟩; constructor <;> (first | exact default | exact Kd.chars | exact Opd.zero | exact tupOf #[] 0)))
  revert prog w p loose mean mg mb o x os xs i t1 t2 t3 ho hx lo lx h0
  refine no_implicit_lambda% ((?F9 : @Tag ?T9 (?prf9 : ?T9) → ?T9) tag_triv)
  case prf9 =>
    intro prog w p loose mean mg mb o x os xs i t1 t2 t3 ho hx lo lx h0
    k_with_none
    k_with "ne9" => (first | exact ne_Nat | exact ne_Heap | exact ne_Value | exact ne_Str | exact ne_Int | exact ne_Env | exact ne_Shared | exact ne_Around | exact ne_Program | exact ne_World | exact ne_List | exact ne_Option | exact ne_Arr | exact ne_Obj | exact ne_FuncData | exact ne_prod ne_Nat ne_Obj | exact ne_fun ne_Prop | exact ne_fun (ne_fun ne_Prop) | exact ne_fun ne_Option | exact ⟨Kd.chars⟩ | exact ⟨Opd.zero⟩ | (refine ⟨?_⟩; exact default) | (refine ⟨?_⟩; constructor <;> (first | exact default | exact Kd.chars | exact Opd.zero | exact tupOf #[] 0)))
    k_with "k_lt_skip" => skip
    k_with "k_all" => (first | (with_reducible assumption) | exact all_ne (by with_reducible assumption) (by intro q hq; k_ownIn))
    k_with "k_ne" => (first | exact ne_l (by with_reducible assumption) (by k_memK) | exact Ne.symm (ne_l (by with_reducible assumption) (by k_memK)) | exact ne_l1 (by with_reducible assumption) (by k_memK) | exact ne_l2 (by with_reducible assumption) (by k_memK) | exact ne_l3 (by with_reducible assumption) (by k_memK) | exact Ne.symm (ne_l1 (by with_reducible assumption) (by k_memK)) | exact Ne.symm (ne_l2 (by with_reducible assumption) (by k_memK)))
    k_with "room" => (first | exact rm0 (by with_reducible assumption) | exact rm1 (by with_reducible assumption) (by decide) | exact rm2 (by with_reducible assumption) (by decide) | exact rm3 (by with_reducible assumption) (by decide))
    k_with "units" => (first | exact rm0 (by with_reducible assumption) | exact rm1 (by with_reducible assumption) (by decide) | exact rm2 (by with_reducible assumption) (by decide) | exact rm3 (by with_reducible assumption) (by decide))
    k_with "ktu_obj" => (refine AllObj.cons ?_; intro o' hc'; (try dsimp only at hc'))
    k_with "ItemsRest" => (first | ((with_unfolding_all refine ItemsRest.val ?_); intro h' tk' F'; ktu_objs) | ((with_unfolding_all refine ItemsRest.pair ?_); intro T' t' h' tk' hT' F'; (try dsimp only at hT'); ktu_objs) | ((with_unfolding_all refine ItemsRest.tok ?_); intro t' h' tk' F'; (try dsimp only); ktu_objs) | ((with_unfolding_all refine ItemsRest.zero ?_); intro h' tk' F' N'))
    k_with "call ref" => (k_extra "my call")
    k_with "pyIter ref" => (k_extra "my loop")
    k_with "exec While Compare" => (k_dflt (k_extra "my while"))
    k_with "exec While BoolOp" => (k_dflt (k_extra "my while"))
    k_with "STEPC" => (refine wpAny_call ?_; k_dflt (refine' code_hereC ?k1 ?k2 ?k3 ?k4 ?k5 ?kA ?kF ?kK ?k6 ?k7 ?k8 ?k9 ?kB ?kD ?_ ?c2 ?c3 ?c4; (case kA => exact rfl); (case kF => assumption); (case kK => assumption); (case k1 => k_asm); (case k2 => k_asm); (case k3 => k_asm); (case k4 => k_asm); (case k5 => k_asm); (case k6 => k_is); (case k7 => k_is); (case k8 => ktr_room); (case k9 => exact BindsTo.of_eq rfl); (case kB => exact rfl); (case kD => decide +kernel); (case c2 => exact rfl); (case c3 => exact rfl); (case c4 => exact rfl); k_whole; intro g' L' h' tk' cells' S' FG' F' N' Y' B' X' T' l1; (try k_lt l1); k_cells Y'; (try simp only [List.cons_append, List.nil_append] at N'); (try dsimp only); (try k_lift B'); (try k_fold)))
    k_with "ite" => (k_closed; first | refine ite_pos (by decide +kernel) ?_ | refine ite_neg (by decide +kernel) ?_)
    k_with "RELR" => (
      (case B => k_asm); (case F => k_asm); (case X => k_asm); (case N => k_asm); (case T => k_asm); (case hf => exact rfl); (case hk => first | exact rfl | assumption); (case hd => ktr_room); (case hu => ktr_units);
      (case P => k_allIn);
      k_whole)
    intro dp un gd env outer A₀ base h₀ L m s Q E B F X N T hfr hk hd hu hret
    cell_step
    k_steps
    rename_i hb _ _ _ _
    refine hret _ [] _ _ (by k_asm) (by k_asm) (Stays.back (by assumption) (by assumption) (by assumption)) ⟨rfl, ?_⟩
    rw [eq_dec, hb, hx, cut_eq h0]
    rfl
  case F9 =>
    intros h9
    k_with_none
    conv at h9 => skip
    conv at h9 => zeta
    exact @ofTag _ _ (tag_triv : type_of% h9)))
end
end SLiesAt
section SFirstAt
section
variable {prog : Program} {w : World} {p : Program} {loose : List Str} {mean : ExcName → Option Value} {mg mb : Str → Option Value}
set_option maxRecDepth 100000 in
set_option maxHeartbeats 8000000 in
theorem first_at_ok {o x : Array UInt8} {os xs : Oct} {t1 t2 t3 : Tok} (ho : KBw.bInts o = os) (hx : KBw.bInts x = xs) (lo : os.length ≤ 64) (lx : xs.length ≤ 64) (l0 : 0 < xs.length) :
    CallOk prog w p loose mean mg mb 2 16 (.ref 76) [.bytes o t1, .bytes x t2, .int 0 t3] [] (fun r led => led = [] ∧ ∃ t, r = .int (firstI os xs) t) :=
  @ofTag _ _ (by exact tag_triv : Tag (by
  k_with_none
  w_top off
  k_with "ne9" => (first | exact ne_Nat | exact ne_Heap | exact ne_Value | exact ne_Str | exact ne_Int | exact ne_Env | exact ne_Shared | exact ne_Around | exact ne_Program | exact ne_World | exact ne_List | exact ne_Option | exact ne_Arr | exact ne_Obj | exact ne_FuncData | exact ne_prod ne_Nat ne_Obj | exact ne_fun ne_Prop | exact ne_fun (ne_fun ne_Prop) | exact ne_fun ne_Option | exact ⟨Kd.chars⟩ | exact ⟨Opd.zero⟩ | (refine ⟨?_⟩; exact default) | (refine ⟨?_⟩; constructor <;> (first | exact default | exact Kd.chars | exact Opd.zero | exact tupOf #[] 0)))
  revert prog w p loose mean mg mb o x os xs t1 t2 t3 ho hx lo lx l0
  refine no_implicit_lambda% ((?F9 : @Tag ?T9 (?prf9 : ?T9) → ?T9) tag_triv)
  case prf9 =>
    intro prog w p loose mean mg mb o x os xs t1 t2 t3 ho hx lo lx l0
    k_with_none
    k_with "ne9" => (first | exact ne_Nat | exact ne_Heap | exact ne_Value | exact ne_Str | exact ne_Int | exact ne_Env | exact ne_Shared | exact ne_Around | exact ne_Program | exact ne_World | exact ne_List | exact ne_Option | exact ne_Arr | exact ne_Obj | exact ne_FuncData | exact ne_prod ne_Nat ne_Obj | exact ne_fun ne_Prop | exact ne_fun (ne_fun ne_Prop) | exact ne_fun ne_Option | exact ⟨Kd.chars⟩ | exact ⟨Opd.zero⟩ | (refine ⟨?_⟩; exact default) | (refine ⟨?_⟩; constructor <;> (first | exact default | exact Kd.chars | exact Opd.zero | exact tupOf #[] 0)))
    k_with "k_lt_skip" => skip
    k_with "k_all" => (first | (with_reducible assumption) | exact all_ne (by with_reducible assumption) (by intro q hq; k_ownIn))
    k_with "k_ne" => (first | exact ne_l (by with_reducible assumption) (by k_memK) | exact Ne.symm (ne_l (by with_reducible assumption) (by k_memK)) | exact ne_l1 (by with_reducible assumption) (by k_memK) | exact ne_l2 (by with_reducible assumption) (by k_memK) | exact ne_l3 (by with_reducible assumption) (by k_memK) | exact Ne.symm (ne_l1 (by with_reducible assumption) (by k_memK)) | exact Ne.symm (ne_l2 (by with_reducible assumption) (by k_memK)))
    k_with "room" => (first | exact rm0 (by with_reducible assumption) | exact rm1 (by with_reducible assumption) (by decide) | exact rm2 (by with_reducible assumption) (by decide) | exact rm3 (by with_reducible assumption) (by decide))
    k_with "units" => (first | exact rm0 (by with_reducible assumption) | exact rm1 (by with_reducible assumption) (by decide) | exact rm2 (by with_reducible assumption) (by decide) | exact rm3 (by with_reducible assumption) (by decide))
    k_with "ktu_obj" => (refine AllObj.cons ?_; intro o' hc'; (try dsimp only at hc'))
    k_with "ItemsRest" => (first | ((with_unfolding_all refine ItemsRest.val ?_); intro h' tk' F'; ktu_objs) | ((with_unfolding_all refine ItemsRest.pair ?_); intro T' t' h' tk' hT' F'; (try dsimp only at hT'); ktu_objs) | ((with_unfolding_all refine ItemsRest.tok ?_); intro t' h' tk' F'; (try dsimp only); ktu_objs) | ((with_unfolding_all refine ItemsRest.zero ?_); intro h' tk' F' N'))
    k_with "call ref" => (k_extra "my call")
    k_with "pyIter ref" => (k_extra "my loop")
    k_with "exec While Compare" => (k_dflt (k_extra "my while"))
    k_with "exec While BoolOp" => (k_dflt (k_extra "my while"))
    k_with "STEPC" => (refine wpAny_call ?_; k_dflt (refine' code_hereC ?k1 ?k2 ?k3 ?k4 ?k5 ?kA ?kF ?kK ?k6 ?k7 ?k8 ?k9 ?kB ?kD ?_ ?c2 ?c3 ?c4; (case kA => exact rfl); (case kF => assumption); (case kK => assumption); (case k1 => k_asm); (case k2 => k_asm); (case k3 => k_asm); (case k4 => k_asm); (case k5 => k_asm); (case k6 => k_is); (case k7 => k_is); (case k8 => ktr_room); (case k9 => exact BindsTo.of_eq rfl); (case kB => exact rfl); (case kD => decide +kernel); (case c2 => exact rfl); (case c3 => exact rfl); (case c4 => exact rfl); k_whole; intro g' L' h' tk' cells' S' FG' F' N' Y' B' X' T' l1; (try k_lt l1); k_cells Y'; (try simp only [List.cons_append, List.nil_append] at N'); (try dsimp only); (try k_lift B'); (try k_fold)))
    k_with "ite" => (k_closed; first | refine ite_pos (by decide +kernel) ?_ | refine ite_neg (by decide +kernel) ?_)
    k_with "RELR" => (
      (case B => k_asm); (case F => k_asm); (case X => k_asm); (case N => k_asm); (case T => k_asm); (case hf => exact rfl); (case hk => first | exact rfl | assumption); (case hd => ktr_room); (case hu => ktr_units);
      (case P => k_allIn);
      k_whole)
    k_with "my call" => (
      (with_reducible show wpAny _ _ (call (Value.ref 69) _) _ _ _)
      k_dflt (refine' CallOk.use (lies_at_ok ho hx lo lx ?h0) ?B ?F ?X ?N ?T ?hf ?hk ?hd ?hu ?P ?ap ?_; (case h0 => omega); ktr_rel)
      intro r' led' h' tk' F' N' b' ap' po'; obtain ⟨e1', e2'⟩ := po'; subst e1' e2'; clear ap' b'; (try simp only [List.nil_append, List.cons_append] at N'); k_sweep; (try dsimp only))
    k_with "my loop" => (
      (rename IsRange _ _ _ _ _ _ _ _ => R'); (rename Fr _ _ _ _ => lF'); (rename News _ _ _ _ => lN')
      (with_unfolding_all refine' iter_rangeP (n := os.length) (fun i => ∀ j, j < i → liesAt os xs j = false) (by rfl) R' (small_one (by omega) (by omega) (by omega) (by omega)) ((rangeSize_up _ _).trans (by omega)) lF' lN' (fun j hj => absurd hj (Nat.not_lt_zero _)) ?tn1 ?dn1); (case' dn1 => intro u h tk hp F' N'); (case' tn1 => intro i t h tk own hi hoff hp F' N')
      all_goals (try clear lF' lN')
      all_goals (try simp only [List.nil_append, List.cons_append, List.append_nil] at N')
      all_goals (try k_fold))
    intro dp un gd env outer A₀ base h₀ L m s Q E B F X N T hfr hk hd hu hret
    cell_step
    k_steps
    · exfalso; omega
    · have hl : liesAt os xs (0 + (i : Int)).toNat = true := by assumption
      refine hret _ [] _ _ (by k_asm) News.nil (Stays.back (by assumption) (by assumption) News.nil) ⟨rfl, t, ?_⟩
      rw [firstI_at hi hp (by simpa using hl), Int.zero_add]
    · have hl : liesAt os xs (0 + (i : Int)).toNat = false := by assumption
      ktr_unf
      refine ⟨rfl, fun z hz => by simp [hz], fun j hj => ?_⟩
      rcases Nat.lt_succ_iff_lt_or_eq.mp hj with h | h
      · exact hp j h
      · subst h; simpa using hl
    · refine hret _ [] _ _ (by k_asm) News.nil (Stays.back (by assumption) (by assumption) News.nil) ⟨rfl, ⟨_, congrArg (fun i => Value.int i _) (firstI_none hp).symm⟩⟩
  case F9 =>
    intros h9
    k_with_none
    conv at h9 => skip
    conv at h9 => zeta
    exact @ofTag _ _ (tag_triv : type_of% h9)))
end
end SFirstAt
section SStretch
section
variable {prog : Program} {w : World} {p : Program} {loose : List Str} {mean : ExcName → Option Value} {mg mb : Str → Option Value}
set_option maxRecDepth 100000 in
set_option maxHeartbeats 8000000 in
theorem stretch_begin_ok {o : Array UInt8} {os : Oct} {t1 : Tok} {va : Value} {after : Option Oct} (ho : KBw.bInts o = os) (lo : os.length ≤ 64) (hv : OV after va) :
    CallOk prog w p loose mean mg mb 3 24 (.ref 111) [.bytes o t1, va] [] (fun r led => led = [] ∧ ∃ t, r = .int (beginOf os after) t) :=
  @ofTag _ _ (by exact tag_triv : Tag (by
  k_with_none
  w_top off
  k_with "ne9" => (first | exact ne_Nat | exact ne_Heap | exact ne_Value | exact ne_Str | exact ne_Int | exact ne_Env | exact ne_Shared | exact ne_Around | exact ne_Program | exact ne_World | exact ne_List | exact ne_Option | exact ne_Arr | exact ne_Obj | exact ne_FuncData | exact ne_prod ne_Nat ne_Obj | exact ne_fun ne_Prop | exact ne_fun (ne_fun ne_Prop) | exact ne_fun ne_Option | exact ⟨Kd.chars⟩ | exact ⟨Opd.zero⟩ | (refine ⟨?_⟩; exact default) | (refine ⟨?_⟩; constructor <;> (first | exact default | exact Kd.chars | exact Opd.zero | exact tupOf #[] 0)))
  revert prog w p loose mean mg mb o os t1 va after ho lo hv
  refine no_implicit_lambda% ((?F9 : @Tag ?T9 (?prf9 : ?T9) → ?T9) tag_triv)
  case prf9 =>
    intro prog w p loose mean mg mb o os t1 va after ho lo hv
    cases hv
    case none =>
      k_with_none
      k_with "ne9" => (first | exact ne_Nat | exact ne_Heap | exact ne_Value | exact ne_Str | exact ne_Int | exact ne_Env | exact ne_Shared | exact ne_Around | exact ne_Program | exact ne_World | exact ne_List | exact ne_Option | exact ne_Arr | exact ne_Obj | exact ne_FuncData | exact ne_prod ne_Nat ne_Obj | exact ne_fun ne_Prop | exact ne_fun (ne_fun ne_Prop) | exact ne_fun ne_Option | exact ⟨Kd.chars⟩ | exact ⟨Opd.zero⟩ | (refine ⟨?_⟩; exact default) | (refine ⟨?_⟩; constructor <;> (first | exact default | exact Kd.chars | exact Opd.zero | exact tupOf #[] 0)))
      k_with "k_lt_skip" => skip
      k_with "k_all" => (first | (with_reducible assumption) | exact all_ne (by with_reducible assumption) (by intro q hq; k_ownIn))
      k_with "k_ne" => (first | exact ne_l (by with_reducible assumption) (by k_memK) | exact Ne.symm (ne_l (by with_reducible assumption) (by k_memK)) | exact ne_l1 (by with_reducible assumption) (by k_memK) | exact ne_l2 (by with_reducible assumption) (by k_memK) | exact ne_l3 (by with_reducible assumption) (by k_memK) | exact Ne.symm (ne_l1 (by with_reducible assumption) (by k_memK)) | exact Ne.symm (ne_l2 (by with_reducible assumption) (by k_memK)))
      k_with "room" => (first | exact rm0 (by with_reducible assumption) | exact rm1 (by with_reducible assumption) (by decide) | exact rm2 (by with_reducible assumption) (by decide) | exact rm3 (by with_reducible assumption) (by decide))
      k_with "units" => (first | exact rm0 (by with_reducible assumption) | exact rm1 (by with_reducible assumption) (by decide) | exact rm2 (by with_reducible assumption) (by decide) | exact rm3 (by with_reducible assumption) (by decide))
      k_with "ktu_obj" => (refine AllObj.cons ?_; intro o' hc'; (try dsimp only at hc'))
      k_with "ItemsRest" => (first | ((with_unfolding_all refine ItemsRest.val ?_); intro h' tk' F'; ktu_objs) | ((with_unfolding_all refine ItemsRest.pair ?_); intro T' t' h' tk' hT' F'; (try dsimp only at hT'); ktu_objs) | ((with_unfolding_all refine ItemsRest.tok ?_); intro t' h' tk' F'; (try dsimp only); ktu_objs) | ((with_unfolding_all refine ItemsRest.zero ?_); intro h' tk' F' N'))
      k_with "call ref" => (k_extra "my call")
      k_with "pyIter ref" => (k_extra "my loop")
      k_with "exec While Compare" => (k_dflt (k_extra "my while"))
      k_with "exec While BoolOp" => (k_dflt (k_extra "my while"))
      k_with "STEPC" => (refine wpAny_call ?_; k_dflt (refine' code_hereC ?k1 ?k2 ?k3 ?k4 ?k5 ?kA ?kF ?kK ?k6 ?k7 ?k8 ?k9 ?kB ?kD ?_ ?c2 ?c3 ?c4; (case kA => exact rfl); (case kF => assumption); (case kK => assumption); (case k1 => k_asm); (case k2 => k_asm); (case k3 => k_asm); (case k4 => k_asm); (case k5 => k_asm); (case k6 => k_is); (case k7 => k_is); (case k8 => ktr_room); (case k9 => exact BindsTo.of_eq rfl); (case kB => exact rfl); (case kD => decide +kernel); (case c2 => exact rfl); (case c3 => exact rfl); (case c4 => exact rfl); k_whole; intro g' L' h' tk' cells' S' FG' F' N' Y' B' X' T' l1; (try k_lt l1); k_cells Y'; (try simp only [List.cons_append, List.nil_append] at N'); (try dsimp only); (try k_lift B'); (try k_fold)))
      k_with "ite" => (k_closed; first | refine ite_pos (by decide +kernel) ?_ | refine ite_neg (by decide +kernel) ?_)
      k_with "RELR" => (
        (case B => k_asm); (case F => k_asm); (case X => k_asm); (case N => k_asm); (case T => k_asm); (case hf => exact rfl); (case hk => first | exact rfl | assumption); (case hd => ktr_room); (case hu => ktr_units);
        (case P => k_allIn);
        k_whole)
      intro dp un gd env outer A₀ base h₀ L m s Q E B F X N T hfr hk hd hu hret
      cell_step
      k_steps
      all_goals exact hret _ [] _ _ (by k_asm) News.nil (Stays.back (by assumption) (by assumption) News.nil) ⟨rfl, _, rfl⟩
    case some b t ks hx l0 lx =>
      revert b t ks; intro b t ks; (set_option tactic.hygienic false in intros)
      k_with_none
      k_with "ne9" => (first | exact ne_Nat | exact ne_Heap | exact ne_Value | exact ne_Str | exact ne_Int | exact ne_Env | exact ne_Shared | exact ne_Around | exact ne_Program | exact ne_World | exact ne_List | exact ne_Option | exact ne_Arr | exact ne_Obj | exact ne_FuncData | exact ne_prod ne_Nat ne_Obj | exact ne_fun ne_Prop | exact ne_fun (ne_fun ne_Prop) | exact ne_fun ne_Option | exact ⟨Kd.chars⟩ | exact ⟨Opd.zero⟩ | (refine ⟨?_⟩; exact default) | (refine ⟨?_⟩; constructor <;> (first | exact default | exact Kd.chars | exact Opd.zero | exact tupOf #[] 0)))
      k_with "k_lt_skip" => skip
      k_with "k_all" => (first | (with_reducible assumption) | exact all_ne (by with_reducible assumption) (by intro q hq; k_ownIn))
      k_with "k_ne" => (first | exact ne_l (by with_reducible assumption) (by k_memK) | exact Ne.symm (ne_l (by with_reducible assumption) (by k_memK)) | exact ne_l1 (by with_reducible assumption) (by k_memK) | exact ne_l2 (by with_reducible assumption) (by k_memK) | exact ne_l3 (by with_reducible assumption) (by k_memK) | exact Ne.symm (ne_l1 (by with_reducible assumption) (by k_memK)) | exact Ne.symm (ne_l2 (by with_reducible assumption) (by k_memK)))
      k_with "room" => (first | exact rm0 (by with_reducible assumption) | exact rm1 (by with_reducible assumption) (by decide) | exact rm2 (by with_reducible assumption) (by decide) | exact rm3 (by with_reducible assumption) (by decide))
      k_with "units" => (first | exact rm0 (by with_reducible assumption) | exact rm1 (by with_reducible assumption) (by decide) | exact rm2 (by with_reducible assumption) (by decide) | exact rm3 (by with_reducible assumption) (by decide))
      k_with "ktu_obj" => (refine AllObj.cons ?_; intro o' hc'; (try dsimp only at hc'))
      k_with "ItemsRest" => (first | ((with_unfolding_all refine ItemsRest.val ?_); intro h' tk' F'; ktu_objs) | ((with_unfolding_all refine ItemsRest.pair ?_); intro T' t' h' tk' hT' F'; (try dsimp only at hT'); ktu_objs) | ((with_unfolding_all refine ItemsRest.tok ?_); intro t' h' tk' F'; (try dsimp only); ktu_objs) | ((with_unfolding_all refine ItemsRest.zero ?_); intro h' tk' F' N'))
      k_with "call ref" => (k_extra "my call")
      k_with "pyIter ref" => (k_extra "my loop")
      k_with "exec While Compare" => (k_dflt (k_extra "my while"))
      k_with "exec While BoolOp" => (k_dflt (k_extra "my while"))
      k_with "STEPC" => (refine wpAny_call ?_; k_dflt (refine' code_hereC ?k1 ?k2 ?k3 ?k4 ?k5 ?kA ?kF ?kK ?k6 ?k7 ?k8 ?k9 ?kB ?kD ?_ ?c2 ?c3 ?c4; (case kA => exact rfl); (case kF => assumption); (case kK => assumption); (case k1 => k_asm); (case k2 => k_asm); (case k3 => k_asm); (case k4 => k_asm); (case k5 => k_asm); (case k6 => k_is); (case k7 => k_is); (case k8 => ktr_room); (case k9 => exact BindsTo.of_eq rfl); (case kB => exact rfl); (case kD => decide +kernel); (case c2 => exact rfl); (case c3 => exact rfl); (case c4 => exact rfl); k_whole; intro g' L' h' tk' cells' S' FG' F' N' Y' B' X' T' l1; (try k_lt l1); k_cells Y'; (try simp only [List.cons_append, List.nil_append] at N'); (try dsimp only); (try k_lift B'); (try k_fold)))
      k_with "ite" => (k_closed; first | refine ite_pos (by decide +kernel) ?_ | refine ite_neg (by decide +kernel) ?_)
      k_with "RELR" => (
        (case B => k_asm); (case F => k_asm); (case X => k_asm); (case N => k_asm); (case T => k_asm); (case hf => exact rfl); (case hk => first | exact rfl | assumption); (case hd => ktr_room); (case hu => ktr_units);
        (case P => k_allIn);
        k_whole)
      k_with "my call" => (
        (with_reducible show wpAny _ _ (call (Value.ref 76) _) _ _ _)
        k_dflt (refine' CallOk.use (first_at_ok ho hx lo lx l0) ?B ?F ?X ?N ?T ?hf ?hk ?hd ?hu ?P ?ap ?_; ktr_rel)
        intro r' led' h' tk' F' N' b' ap' po'; obtain ⟨e1', t', e2'⟩ := po'; subst e1' e2'; clear ap' b'; (try simp only [List.nil_append] at N'); k_sweep; (try dsimp only))
      intro dp un gd env outer A₀ base h₀ L m s Q E B F X N T hfr hk hd hu hret
      cell_step
      k_steps
      · refine hret _ [] _ _ (by k_asm) News.nil (Stays.back (by assumption) (by assumption) News.nil) ⟨rfl, int_eq ?_⟩
        exact (if_pos (by assumption)).symm
      · refine hret _ [] _ _ (by k_asm) News.nil (Stays.back (by assumption) (by assumption) News.nil) ⟨rfl, int_eq ?_⟩
        exact (if_neg (by assumption)).symm
  case F9 =>
    intros h9
    k_with_none
    conv at h9 => skip
    conv at h9 => zeta
    exact @ofTag _ _ (tag_triv : type_of% h9)))
set_option maxRecDepth 100000 in
set_option maxHeartbeats 8000000 in
theorem stretch_end_ok {o : Array UInt8} {os : Oct} {t1 : Tok} {vb : Value} {before : Option Oct} (ho : KBw.bInts o = os) (lo : os.length ≤ 64) (hv : OV before vb) :
    CallOk prog w p loose mean mg mb 3 24 (Value.ref 118) [.bytes o t1, vb] [] (fun r led => led = [] ∧ ∃ t, r = .int (endOf os before) t) :=
  @ofTag _ _ (by exact tag_triv : Tag (by
  k_with_none
  w_top off
  k_with "ne9" => (first | exact ne_Nat | exact ne_Heap | exact ne_Value | exact ne_Str | exact ne_Int | exact ne_Env | exact ne_Shared | exact ne_Around | exact ne_Program | exact ne_World | exact ne_List | exact ne_Option | exact ne_Arr | exact ne_Obj | exact ne_FuncData | exact ne_prod ne_Nat ne_Obj | exact ne_fun ne_Prop | exact ne_fun (ne_fun ne_Prop) | exact ne_fun ne_Option | exact ⟨Kd.chars⟩ | exact ⟨Opd.zero⟩ | (refine ⟨?_⟩; exact default) | (refine ⟨?_⟩; constructor <;> (first | exact default | exact Kd.chars | exact Opd.zero | exact tupOf #[] 0)))
  revert prog w p loose mean mg mb o os t1 vb before ho lo hv
  refine no_implicit_lambda% ((?F9 : @Tag ?T9 (?prf9 : ?T9) → ?T9) tag_triv)
  case prf9 =>
    intro prog w p loose mean mg mb o os t1 vb before ho lo hv
    cases hv
    case none =>
      k_with_none
      k_with "ne9" => (first | exact ne_Nat | exact ne_Heap | exact ne_Value | exact ne_Str | exact ne_Int | exact ne_Env | exact ne_Shared | exact ne_Around | exact ne_Program | exact ne_World | exact ne_List | exact ne_Option | exact ne_Arr | exact ne_Obj | exact ne_FuncData | exact ne_prod ne_Nat ne_Obj | exact ne_fun ne_Prop | exact ne_fun (ne_fun ne_Prop) | exact ne_fun ne_Option | exact ⟨Kd.chars⟩ | exact ⟨Opd.zero⟩ | (refine ⟨?_⟩; exact default) | (refine ⟨?_⟩; constructor <;> (first | exact default | exact Kd.chars | exact Opd.zero | exact tupOf #[] 0)))
      k_with "k_lt_skip" => skip
      k_with "k_all" => (first | (with_reducible assumption) | exact all_ne (by with_reducible assumption) (by intro q hq; k_ownIn))
      k_with "k_ne" => (first | exact ne_l (by with_reducible assumption) (by k_memK) | exact Ne.symm (ne_l (by with_reducible assumption) (by k_memK)) | exact ne_l1 (by with_reducible assumption) (by k_memK) | exact ne_l2 (by with_reducible assumption) (by k_memK) | exact ne_l3 (by with_reducible assumption) (by k_memK) | exact Ne.symm (ne_l1 (by with_reducible assumption) (by k_memK)) | exact Ne.symm (ne_l2 (by with_reducible assumption) (by k_memK)))
      k_with "room" => (first | exact rm0 (by with_reducible assumption) | exact rm1 (by with_reducible assumption) (by decide) | exact rm2 (by with_reducible assumption) (by decide) | exact rm3 (by with_reducible assumption) (by decide))
      k_with "units" => (first | exact rm0 (by with_reducible assumption) | exact rm1 (by with_reducible assumption) (by decide) | exact rm2 (by with_reducible assumption) (by decide) | exact rm3 (by with_reducible assumption) (by decide))
      k_with "ktu_obj" => (refine AllObj.cons ?_; intro o' hc'; (try dsimp only at hc'))
      k_with "ItemsRest" => (first | ((with_unfolding_all refine ItemsRest.val ?_); intro h' tk' F'; ktu_objs) | ((with_unfolding_all refine ItemsRest.pair ?_); intro T' t' h' tk' hT' F'; (try dsimp only at hT'); ktu_objs) | ((with_unfolding_all refine ItemsRest.tok ?_); intro t' h' tk' F'; (try dsimp only); ktu_objs) | ((with_unfolding_all refine ItemsRest.zero ?_); intro h' tk' F' N'))
      k_with "call ref" => (k_extra "my call")
      k_with "pyIter ref" => (k_extra "my loop")
      k_with "exec While Compare" => (k_dflt (k_extra "my while"))
      k_with "exec While BoolOp" => (k_dflt (k_extra "my while"))
      k_with "STEPC" => (refine wpAny_call ?_; k_dflt (refine' code_hereC ?k1 ?k2 ?k3 ?k4 ?k5 ?kA ?kF ?kK ?k6 ?k7 ?k8 ?k9 ?kB ?kD ?_ ?c2 ?c3 ?c4; (case kA => exact rfl); (case kF => assumption); (case kK => assumption); (case k1 => k_asm); (case k2 => k_asm); (case k3 => k_asm); (case k4 => k_asm); (case k5 => k_asm); (case k6 => k_is); (case k7 => k_is); (case k8 => ktr_room); (case k9 => exact BindsTo.of_eq rfl); (case kB => exact rfl); (case kD => decide +kernel); (case c2 => exact rfl); (case c3 => exact rfl); (case c4 => exact rfl); k_whole; intro g' L' h' tk' cells' S' FG' F' N' Y' B' X' T' l1; (try k_lt l1); k_cells Y'; (try simp only [List.cons_append, List.nil_append] at N'); (try dsimp only); (try k_lift B'); (try k_fold)))
      k_with "ite" => (k_closed; first | refine ite_pos (by decide +kernel) ?_ | refine ite_neg (by decide +kernel) ?_)
      k_with "RELR" => (
        (case B => k_asm); (case F => k_asm); (case X => k_asm); (case N => k_asm); (case T => k_asm); (case hf => exact rfl); (case hk => first | exact rfl | assumption); (case hd => ktr_room); (case hu => ktr_units);
        (case P => k_allIn);
        k_whole)
      intro dp un gd env outer A₀ base h₀ L m s Q E B F X N T hfr hk hd hu hret
      cell_step
      k_steps
      all_goals exact hret _ [] _ _ (by k_asm) News.nil (Stays.back (by assumption) (by assumption) News.nil) ⟨rfl, _, rfl⟩
    case some b t ks hx l0 lx =>
      revert b t ks; intro b t ks; (set_option tactic.hygienic false in intros)
      k_with_none
      k_with "ne9" => (first | exact ne_Nat | exact ne_Heap | exact ne_Value | exact ne_Str | exact ne_Int | exact ne_Env | exact ne_Shared | exact ne_Around | exact ne_Program | exact ne_World | exact ne_List | exact ne_Option | exact ne_Arr | exact ne_Obj | exact ne_FuncData | exact ne_prod ne_Nat ne_Obj | exact ne_fun ne_Prop | exact ne_fun (ne_fun ne_Prop) | exact ne_fun ne_Option | exact ⟨Kd.chars⟩ | exact ⟨Opd.zero⟩ | (refine ⟨?_⟩; exact default) | (refine ⟨?_⟩; constructor <;> (first | exact default | exact Kd.chars | exact Opd.zero | exact tupOf #[] 0)))
      k_with "k_lt_skip" => skip
      k_with "k_all" => (first | (with_reducible assumption) | exact all_ne (by with_reducible assumption) (by intro q hq; k_ownIn))
      k_with "k_ne" => (first | exact ne_l (by with_reducible assumption) (by k_memK) | exact Ne.symm (ne_l (by with_reducible assumption) (by k_memK)) | exact ne_l1 (by with_reducible assumption) (by k_memK) | exact ne_l2 (by with_reducible assumption) (by k_memK) | exact ne_l3 (by with_reducible assumption) (by k_memK) | exact Ne.symm (ne_l1 (by with_reducible assumption) (by k_memK)) | exact Ne.symm (ne_l2 (by with_reducible assumption) (by k_memK)))
      k_with "room" => (first | exact rm0 (by with_reducible assumption) | exact rm1 (by with_reducible assumption) (by decide) | exact rm2 (by with_reducible assumption) (by decide) | exact rm3 (by with_reducible assumption) (by decide))
      k_with "units" => (first | exact rm0 (by with_reducible assumption) | exact rm1 (by with_reducible assumption) (by decide) | exact rm2 (by with_reducible assumption) (by decide) | exact rm3 (by with_reducible assumption) (by decide))
      k_with "ktu_obj" => (refine AllObj.cons ?_; intro o' hc'; (try dsimp only at hc'))
      k_with "ItemsRest" => (first | ((with_unfolding_all refine ItemsRest.val ?_); intro h' tk' F'; ktu_objs) | ((with_unfolding_all refine ItemsRest.pair ?_); intro T' t' h' tk' hT' F'; (try dsimp only at hT'); ktu_objs) | ((with_unfolding_all refine ItemsRest.tok ?_); intro t' h' tk' F'; (try dsimp only); ktu_objs) | ((with_unfolding_all refine ItemsRest.zero ?_); intro h' tk' F' N'))
      k_with "call ref" => (k_extra "my call")
      k_with "pyIter ref" => (k_extra "my loop")
      k_with "exec While Compare" => (k_dflt (k_extra "my while"))
      k_with "exec While BoolOp" => (k_dflt (k_extra "my while"))
      k_with "STEPC" => (refine wpAny_call ?_; k_dflt (refine' code_hereC ?k1 ?k2 ?k3 ?k4 ?k5 ?kA ?kF ?kK ?k6 ?k7 ?k8 ?k9 ?kB ?kD ?_ ?c2 ?c3 ?c4; (case kA => exact rfl); (case kF => assumption); (case kK => assumption); (case k1 => k_asm); (case k2 => k_asm); (case k3 => k_asm); (case k4 => k_asm); (case k5 => k_asm); (case k6 => k_is); (case k7 => k_is); (case k8 => ktr_room); (case k9 => exact BindsTo.of_eq rfl); (case kB => exact rfl); (case kD => decide +kernel); (case c2 => exact rfl); (case c3 => exact rfl); (case c4 => exact rfl); k_whole; intro g' L' h' tk' cells' S' FG' F' N' Y' B' X' T' l1; (try k_lt l1); k_cells Y'; (try simp only [List.cons_append, List.nil_append] at N'); (try dsimp only); (try k_lift B'); (try k_fold)))
      k_with "ite" => (k_closed; first | refine ite_pos (by decide +kernel) ?_ | refine ite_neg (by decide +kernel) ?_)
      k_with "RELR" => (
        (case B => k_asm); (case F => k_asm); (case X => k_asm); (case N => k_asm); (case T => k_asm); (case hf => exact rfl); (case hk => first | exact rfl | assumption); (case hd => ktr_room); (case hu => ktr_units);
        (case P => k_allIn);
        k_whole)
      k_with "my call" => (
        (with_reducible show wpAny _ _ (call (Value.ref 76) _) _ _ _)
        k_dflt (refine' CallOk.use (first_at_ok ho hx lo lx l0) ?B ?F ?X ?N ?T ?hf ?hk ?hd ?hu ?P ?ap ?_; ktr_rel)
        intro r' led' h' tk' F' N' b' ap' po'; obtain ⟨e1', t', e2'⟩ := po'; subst e1' e2'; clear ap' b'; (try simp only [List.nil_append] at N'); k_sweep; (try dsimp only))
      intro dp un gd env outer A₀ base h₀ L m s Q E B F X N T hfr hk hd hu hret
      cell_step
      k_steps
      · refine hret _ [] _ _ (by k_asm) News.nil (Stays.back (by assumption) (by assumption) News.nil) ⟨rfl, int_eq ?_⟩
        exact (if_pos (by assumption)).symm
      · refine hret _ [] _ _ (by k_asm) News.nil (Stays.back (by assumption) (by assumption) News.nil) ⟨rfl, int_eq ?_⟩
        exact (if_neg (by assumption)).symm
  case F9 =>
    intros h9
    k_with_none
    conv at h9 => skip
    conv at h9 => zeta
    exact @ofTag _ _ (tag_triv : type_of% h9)))

end
end SStretch
section SSeek
section
variable {prog : Program} {w : World} {p : Program} {loose : List Str} {mean : ExcName → Option Value} {mg mb : Str → Option Value}
set_option maxRecDepth 100000 in
set_option maxHeartbeats 8000000 in
theorem width_ok {x d : Addr} {u1 u2 u3 u4 u5 u6 tk : Tok} {vw vb ve vl vd : Value} {k : Kd} {xs : Oct} (hw : WV k xs vw) :
    CallOk prog w p loose mean mg mb 1 8 (.ref 139) [.ref x] [(x, instObj 163 d), (d, skObj w.params u1 u2 u3 u4 u5 u6 (.str (kdStr k) tk) vw vb ve vl vd)]
      (fun r led => led = [(x, instObj 163 d), (d, skObj w.params u1 u2 u3 u4 u5 u6 (.str (kdStr k) tk) vw vb ve vl vd)] ∧ ∃ t, r = .int (width k xs) t) :=
  @ofTag _ _ (by exact tag_triv : Tag (by
  k_with_none
  w_top off
  k_with "ne9" => (first | exact ne_Nat | exact ne_Heap | exact ne_Value | exact ne_Str | exact ne_Int | exact ne_Env | exact ne_Shared | exact ne_Around | exact ne_Program | exact ne_World | exact ne_List | exact ne_Option | exact ne_Arr | exact ne_Obj | exact ne_FuncData | exact ne_prod ne_Nat ne_Obj | exact ne_fun ne_Prop | exact ne_fun (ne_fun ne_Prop) | exact ne_fun ne_Option | exact ⟨Kd.chars⟩ | exact ⟨Opd.zero⟩ | (refine ⟨?_⟩; exact default) | (refine ⟨?_⟩; constructor <;> (first | exact default | exact Kd.chars | exact Opd.zero | exact tupOf #[] 0)))
  revert prog w p loose mean mg mb x d u1 u2 u3 u4 u5 u6 tk vw vb ve vl vd k xs hw
  refine no_implicit_lambda% ((?F9 : @Tag ?T9 (?prf9 : ?T9) → ?T9) tag_triv)
  case prf9 =>
    intro prog w p loose mean mg mb x d u1 u2 u3 u4 u5 u6 tk vw vb ve vl vd k xs hw
    rcases WV.el hw with h9 | h9
    · obtain ⟨e1, e2⟩ := h9; subst e1 e2
      k_with_none
      k_with "ne9" => (first | exact ne_Nat | exact ne_Heap | exact ne_Value | exact ne_Str | exact ne_Int | exact ne_Env | exact ne_Shared | exact ne_Around | exact ne_Program | exact ne_World | exact ne_List | exact ne_Option | exact ne_Arr | exact ne_Obj | exact ne_FuncData | exact ne_prod ne_Nat ne_Obj | exact ne_fun ne_Prop | exact ne_fun (ne_fun ne_Prop) | exact ne_fun ne_Option | exact ⟨Kd.chars⟩ | exact ⟨Opd.zero⟩ | (refine ⟨?_⟩; exact default) | (refine ⟨?_⟩; constructor <;> (first | exact default | exact Kd.chars | exact Opd.zero | exact tupOf #[] 0)))
      k_with "k_lt_skip" => skip
      k_with "k_all" => (first | (with_reducible assumption) | exact all_ne (by with_reducible assumption) (by intro q hq; k_ownIn))
      k_with "k_ne" => (first | exact ne_l (by with_reducible assumption) (by k_memK) | exact Ne.symm (ne_l (by with_reducible assumption) (by k_memK)) | exact ne_l1 (by with_reducible assumption) (by k_memK) | exact ne_l2 (by with_reducible assumption) (by k_memK) | exact ne_l3 (by with_reducible assumption) (by k_memK) | exact Ne.symm (ne_l1 (by with_reducible assumption) (by k_memK)) | exact Ne.symm (ne_l2 (by with_reducible assumption) (by k_memK)))
      k_with "room" => (first | exact rm0 (by with_reducible assumption) | exact rm1 (by with_reducible assumption) (by decide) | exact rm2 (by with_reducible assumption) (by decide) | exact rm3 (by with_reducible assumption) (by decide))
      k_with "units" => (first | exact rm0 (by with_reducible assumption) | exact rm1 (by with_reducible assumption) (by decide) | exact rm2 (by with_reducible assumption) (by decide) | exact rm3 (by with_reducible assumption) (by decide))
      k_with "ktu_obj" => (refine AllObj.cons ?_; intro o' hc'; (try dsimp only at hc'))
      k_with "ItemsRest" => (first | ((with_unfolding_all refine ItemsRest.val ?_); intro h' tk' F'; ktu_objs) | ((with_unfolding_all refine ItemsRest.pair ?_); intro T' t' h' tk' hT' F'; (try dsimp only at hT'); ktu_objs) | ((with_unfolding_all refine ItemsRest.tok ?_); intro t' h' tk' F'; (try dsimp only); ktu_objs) | ((with_unfolding_all refine ItemsRest.zero ?_); intro h' tk' F' N'))
      k_with "call ref" => (k_extra "my call")
      k_with "pyIter ref" => (k_extra "my loop")
      k_with "exec While Compare" => (k_dflt (k_extra "my while"))
      k_with "exec While BoolOp" => (k_dflt (k_extra "my while"))
      k_with "STEPC" => (refine wpAny_call ?_; k_dflt (refine' code_hereC ?k1 ?k2 ?k3 ?k4 ?k5 ?kA ?kF ?kK ?k6 ?k7 ?k8 ?k9 ?kB ?kD ?_ ?c2 ?c3 ?c4; (case kA => exact rfl); (case kF => assumption); (case kK => assumption); (case k1 => k_asm); (case k2 => k_asm); (case k3 => k_asm); (case k4 => k_asm); (case k5 => k_asm); (case k6 => k_is); (case k7 => k_is); (case k8 => ktr_room); (case k9 => exact BindsTo.of_eq rfl); (case kB => exact rfl); (case kD => decide +kernel); (case c2 => exact rfl); (case c3 => exact rfl); (case c4 => exact rfl); k_whole; intro g' L' h' tk' cells' S' FG' F' N' Y' B' X' T' l1; (try k_lt l1); k_cells Y'; (try simp only [List.cons_append, List.nil_append] at N'); (try dsimp only); (try k_lift B'); (try k_fold)))
      k_with "ite" => (k_closed; first | refine ite_pos (by decide +kernel) ?_ | refine ite_neg (by decide +kernel) ?_)
      k_with "RELR" => (
        (case B => k_asm); (case F => k_asm); (case X => k_asm); (case N => k_asm); (case T => k_asm); (case hf => exact rfl); (case hk => first | exact rfl | assumption); (case hd => ktr_room); (case hu => ktr_units);
        (case P => k_allIn);
        k_whole)
      intro dp un gd env outer A₀ base h₀ L m s Q E B F X N T hfr hk hd hu hret
      cell_step
      k_steps
      · exact hret _ _ _ _ (by k_asm) (by k_asm) (Stays.back (by assumption) (by assumption) (by assumption)) ⟨rfl, int_eq rfl⟩
    · obtain ⟨b, t, e1, hk0, hb, l0, l1⟩ := h9; subst e1
      k_with_none
      k_with "ne9" => (first | exact ne_Nat | exact ne_Heap | exact ne_Value | exact ne_Str | exact ne_Int | exact ne_Env | exact ne_Shared | exact ne_Around | exact ne_Program | exact ne_World | exact ne_List | exact ne_Option | exact ne_Arr | exact ne_Obj | exact ne_FuncData | exact ne_prod ne_Nat ne_Obj | exact ne_fun ne_Prop | exact ne_fun (ne_fun ne_Prop) | exact ne_fun ne_Option | exact ⟨Kd.chars⟩ | exact ⟨Opd.zero⟩ | (refine ⟨?_⟩; exact default) | (refine ⟨?_⟩; constructor <;> (first | exact default | exact Kd.chars | exact Opd.zero | exact tupOf #[] 0)))
      k_with "k_lt_skip" => skip
      k_with "k_all" => (first | (with_reducible assumption) | exact all_ne (by with_reducible assumption) (by intro q hq; k_ownIn))
      k_with "k_ne" => (first | exact ne_l (by with_reducible assumption) (by k_memK) | exact Ne.symm (ne_l (by with_reducible assumption) (by k_memK)) | exact ne_l1 (by with_reducible assumption) (by k_memK) | exact ne_l2 (by with_reducible assumption) (by k_memK) | exact ne_l3 (by with_reducible assumption) (by k_memK) | exact Ne.symm (ne_l1 (by with_reducible assumption) (by k_memK)) | exact Ne.symm (ne_l2 (by with_reducible assumption) (by k_memK)))
      k_with "room" => (first | exact rm0 (by with_reducible assumption) | exact rm1 (by with_reducible assumption) (by decide) | exact rm2 (by with_reducible assumption) (by decide) | exact rm3 (by with_reducible assumption) (by decide))
      k_with "units" => (first | exact rm0 (by with_reducible assumption) | exact rm1 (by with_reducible assumption) (by decide) | exact rm2 (by with_reducible assumption) (by decide) | exact rm3 (by with_reducible assumption) (by decide))
      k_with "ktu_obj" => (refine AllObj.cons ?_; intro o' hc'; (try dsimp only at hc'))
      k_with "ItemsRest" => (first | ((with_unfolding_all refine ItemsRest.val ?_); intro h' tk' F'; ktu_objs) | ((with_unfolding_all refine ItemsRest.pair ?_); intro T' t' h' tk' hT' F'; (try dsimp only at hT'); ktu_objs) | ((with_unfolding_all refine ItemsRest.tok ?_); intro t' h' tk' F'; (try dsimp only); ktu_objs) | ((with_unfolding_all refine ItemsRest.zero ?_); intro h' tk' F' N'))
      k_with "call ref" => (k_extra "my call")
      k_with "pyIter ref" => (k_extra "my loop")
      k_with "exec While Compare" => (k_dflt (k_extra "my while"))
      k_with "exec While BoolOp" => (k_dflt (k_extra "my while"))
      k_with "STEPC" => (refine wpAny_call ?_; k_dflt (refine' code_hereC ?k1 ?k2 ?k3 ?k4 ?k5 ?kA ?kF ?kK ?k6 ?k7 ?k8 ?k9 ?kB ?kD ?_ ?c2 ?c3 ?c4; (case kA => exact rfl); (case kF => assumption); (case kK => assumption); (case k1 => k_asm); (case k2 => k_asm); (case k3 => k_asm); (case k4 => k_asm); (case k5 => k_asm); (case k6 => k_is); (case k7 => k_is); (case k8 => ktr_room); (case k9 => exact BindsTo.of_eq rfl); (case kB => exact rfl); (case kD => decide +kernel); (case c2 => exact rfl); (case c3 => exact rfl); (case c4 => exact rfl); k_whole; intro g' L' h' tk' cells' S' FG' F' N' Y' B' X' T' l1; (try k_lt l1); k_cells Y'; (try simp only [List.cons_append, List.nil_append] at N'); (try dsimp only); (try k_lift B'); (try k_fold)))
      k_with "ite" => (k_closed; first | refine ite_pos (by decide +kernel) ?_ | refine ite_neg (by decide +kernel) ?_)
      k_with "RELR" => (
        (case B => k_asm); (case F => k_asm); (case X => k_asm); (case N => k_asm); (case T => k_asm); (case hf => exact rfl); (case hk => first | exact rfl | assumption); (case hd => ktr_room); (case hu => ktr_units);
        (case P => k_allIn);
        k_whole)
      intro dp un gd env outer A₀ base h₀ L m s Q E B F X N T hfr hk hd hu hret
      cell_step
      k_steps
      · exact absurd (of_decide_eq_true (kd_chars.symm.trans (by assumption))) hk0
      · exact hret _ _ _ _ (by k_asm) (by k_asm) (Stays.back (by assumption) (by assumption) (by assumption)) ⟨rfl, int_eq (width_oct hk0).symm⟩
  case F9 =>
    intros h9
    k_with_none
    conv at h9 => skip
    conv at h9 => zeta
    exact @ofTag _ _ (tag_triv : type_of% h9)))
set_option maxRecDepth 100000 in
set_option maxHeartbeats 8000000 in
theorem reach_ok {x d : Addr} {u1 u2 u3 u4 u5 u6 tb te ti : Tok} {vk vw vl vd : Value} {b e i : Int} {lead : Option Int} (hl : LV lead vl) (hxd : @Ne Nat d x) :
    CallOk prog w p loose mean mg mb 1 8 (.ref 146) [.ref x, .int i ti] [(x, instObj 163 d), (d, skObj w.params u1 u2 u3 u4 u5 u6 vk vw (.int b tb) (.int e te) vl vd)]
      (fun r led => r = .none ∧ ∃ vl', LV (reachL b e lead i) vl' ∧ led = [(x, instObj 163 d), (d, skObj w.params u1 u2 u3 u4 u5 u6 vk vw (.int b tb) (.int e te) vl' vd)]) :=
  @ofTag _ _ (by exact tag_triv : Tag (by
  k_with_none
  w_top off
  k_with "ne9" => (first | exact ne_Nat | exact ne_Heap | exact ne_Value | exact ne_Str | exact ne_Int | exact ne_Env | exact ne_Shared | exact ne_Around | exact ne_Program | exact ne_World | exact ne_List | exact ne_Option | exact ne_Arr | exact ne_Obj | exact ne_FuncData | exact ne_prod ne_Nat ne_Obj | exact ne_fun ne_Prop | exact ne_fun (ne_fun ne_Prop) | exact ne_fun ne_Option | exact ⟨Kd.chars⟩ | exact ⟨Opd.zero⟩ | (refine ⟨?_⟩; exact default) | (refine ⟨?_⟩; constructor <;> (first | exact default | exact Kd.chars | exact Opd.zero | exact tupOf #[] 0)))
  revert prog w p loose mean mg mb x d u1 u2 u3 u4 u5 u6 tb te ti vk vw vl vd b e i lead hl hxd
  refine no_implicit_lambda% ((?F9 : @Tag ?T9 (?prf9 : ?T9) → ?T9) tag_triv)
  case prf9 =>
    intro prog w p loose mean mg mb x d u1 u2 u3 u4 u5 u6 tb te ti vk vw vl vd b e i lead hl hxd
    rcases LV.el hl with h9 | h9
    · obtain ⟨e1, e2⟩ := h9; subst e1 e2
      k_with_none
      k_with "ne9" => (first | exact ne_Nat | exact ne_Heap | exact ne_Value | exact ne_Str | exact ne_Int | exact ne_Env | exact ne_Shared | exact ne_Around | exact ne_Program | exact ne_World | exact ne_List | exact ne_Option | exact ne_Arr | exact ne_Obj | exact ne_FuncData | exact ne_prod ne_Nat ne_Obj | exact ne_fun ne_Prop | exact ne_fun (ne_fun ne_Prop) | exact ne_fun ne_Option | exact ⟨Kd.chars⟩ | exact ⟨Opd.zero⟩ | (refine ⟨?_⟩; exact default) | (refine ⟨?_⟩; constructor <;> (first | exact default | exact Kd.chars | exact Opd.zero | exact tupOf #[] 0)))
      k_with "k_lt_skip" => skip
      k_with "k_all" => (first | (with_reducible assumption) | exact all_ne (by with_reducible assumption) (by intro q hq; k_ownIn))
      k_with "k_ne" => (first | exact ne_l (by with_reducible assumption) (by k_memK) | exact Ne.symm (ne_l (by with_reducible assumption) (by k_memK)) | exact ne_l1 (by with_reducible assumption) (by k_memK) | exact ne_l2 (by with_reducible assumption) (by k_memK) | exact ne_l3 (by with_reducible assumption) (by k_memK) | exact Ne.symm (ne_l1 (by with_reducible assumption) (by k_memK)) | exact Ne.symm (ne_l2 (by with_reducible assumption) (by k_memK)))
      k_with "room" => (first | exact rm0 (by with_reducible assumption) | exact rm1 (by with_reducible assumption) (by decide) | exact rm2 (by with_reducible assumption) (by decide) | exact rm3 (by with_reducible assumption) (by decide))
      k_with "units" => (first | exact rm0 (by with_reducible assumption) | exact rm1 (by with_reducible assumption) (by decide) | exact rm2 (by with_reducible assumption) (by decide) | exact rm3 (by with_reducible assumption) (by decide))
      k_with "ktu_obj" => (refine AllObj.cons ?_; intro o' hc'; (try dsimp only at hc'))
      k_with "ItemsRest" => (first | ((with_unfolding_all refine ItemsRest.val ?_); intro h' tk' F'; ktu_objs) | ((with_unfolding_all refine ItemsRest.pair ?_); intro T' t' h' tk' hT' F'; (try dsimp only at hT'); ktu_objs) | ((with_unfolding_all refine ItemsRest.tok ?_); intro t' h' tk' F'; (try dsimp only); ktu_objs) | ((with_unfolding_all refine ItemsRest.zero ?_); intro h' tk' F' N'))
      k_with "call ref" => (k_extra "my call")
      k_with "pyIter ref" => (k_extra "my loop")
      k_with "exec While Compare" => (k_dflt (k_extra "my while"))
      k_with "exec While BoolOp" => (k_dflt (k_extra "my while"))
      k_with "STEPC" => (refine wpAny_call ?_; k_dflt (refine' code_hereC ?k1 ?k2 ?k3 ?k4 ?k5 ?kA ?kF ?kK ?k6 ?k7 ?k8 ?k9 ?kB ?kD ?_ ?c2 ?c3 ?c4; (case kA => exact rfl); (case kF => assumption); (case kK => assumption); (case k1 => k_asm); (case k2 => k_asm); (case k3 => k_asm); (case k4 => k_asm); (case k5 => k_asm); (case k6 => k_is); (case k7 => k_is); (case k8 => ktr_room); (case k9 => exact BindsTo.of_eq rfl); (case kB => exact rfl); (case kD => decide +kernel); (case c2 => exact rfl); (case c3 => exact rfl); (case c4 => exact rfl); k_whole; intro g' L' h' tk' cells' S' FG' F' N' Y' B' X' T' l1; (try k_lt l1); k_cells Y'; (try simp only [List.cons_append, List.nil_append] at N'); (try dsimp only); (try k_lift B'); (try k_fold)))
      k_with "ite" => (k_closed; first | refine ite_pos (by decide +kernel) ?_ | refine ite_neg (by decide +kernel) ?_)
      k_with "RELR" => (
        (case B => k_asm); (case F => k_asm); (case X => k_asm); (case N => k_asm); (case T => k_asm); (case hf => exact rfl); (case hk => first | exact rfl | assumption); (case hd => ktr_room); (case hu => ktr_units);
        (case P => k_allIn);
        k_whole)
      intro dp un gd env outer A₀ base h₀ L m s Q E B F X N T hfr hk hd hu hret
      cell_step
      k_steps
      · exact hret _ _ _ _ (by k_asm) (by k_asm) (Stays.back (by assumption) (by assumption) (by assumption)) ⟨rfl, _, (by rw [reachL, if_pos ⟨by assumption, by assumption⟩]; exact LV.some), rfl⟩
      · exact hret _ _ _ _ (by k_asm) (by k_asm) (Stays.back (by assumption) (by assumption) (by assumption)) ⟨rfl, _, (by rw [reachL, if_neg (fun h => absurd h.2 (by assumption))]; exact LV.none), rfl⟩
      · exact hret _ _ _ _ (by k_asm) (by k_asm) (Stays.back (by assumption) (by assumption) (by assumption)) ⟨rfl, _, (by rw [reachL, if_neg (fun h => absurd h.1 (by assumption))]; exact LV.none), rfl⟩
    · obtain ⟨j, tj, e1, e2⟩ := h9; subst e1 e2
      k_with_none
      k_with "ne9" => (first | exact ne_Nat | exact ne_Heap | exact ne_Value | exact ne_Str | exact ne_Int | exact ne_Env | exact ne_Shared | exact ne_Around | exact ne_Program | exact ne_World | exact ne_List | exact ne_Option | exact ne_Arr | exact ne_Obj | exact ne_FuncData | exact ne_prod ne_Nat ne_Obj | exact ne_fun ne_Prop | exact ne_fun (ne_fun ne_Prop) | exact ne_fun ne_Option | exact ⟨Kd.chars⟩ | exact ⟨Opd.zero⟩ | (refine ⟨?_⟩; exact default) | (refine ⟨?_⟩; constructor <;> (first | exact default | exact Kd.chars | exact Opd.zero | exact tupOf #[] 0)))
      k_with "k_lt_skip" => skip
      k_with "k_all" => (first | (with_reducible assumption) | exact all_ne (by with_reducible assumption) (by intro q hq; k_ownIn))
      k_with "k_ne" => (first | exact ne_l (by with_reducible assumption) (by k_memK) | exact Ne.symm (ne_l (by with_reducible assumption) (by k_memK)) | exact ne_l1 (by with_reducible assumption) (by k_memK) | exact ne_l2 (by with_reducible assumption) (by k_memK) | exact ne_l3 (by with_reducible assumption) (by k_memK) | exact Ne.symm (ne_l1 (by with_reducible assumption) (by k_memK)) | exact Ne.symm (ne_l2 (by with_reducible assumption) (by k_memK)))
      k_with "room" => (first | exact rm0 (by with_reducible assumption) | exact rm1 (by with_reducible assumption) (by decide) | exact rm2 (by with_reducible assumption) (by decide) | exact rm3 (by with_reducible assumption) (by decide))
      k_with "units" => (first | exact rm0 (by with_reducible assumption) | exact rm1 (by with_reducible assumption) (by decide) | exact rm2 (by with_reducible assumption) (by decide) | exact rm3 (by with_reducible assumption) (by decide))
      k_with "ktu_obj" => (refine AllObj.cons ?_; intro o' hc'; (try dsimp only at hc'))
      k_with "ItemsRest" => (first | ((with_unfolding_all refine ItemsRest.val ?_); intro h' tk' F'; ktu_objs) | ((with_unfolding_all refine ItemsRest.pair ?_); intro T' t' h' tk' hT' F'; (try dsimp only at hT'); ktu_objs) | ((with_unfolding_all refine ItemsRest.tok ?_); intro t' h' tk' F'; (try dsimp only); ktu_objs) | ((with_unfolding_all refine ItemsRest.zero ?_); intro h' tk' F' N'))
      k_with "call ref" => (k_extra "my call")
      k_with "pyIter ref" => (k_extra "my loop")
      k_with "exec While Compare" => (k_dflt (k_extra "my while"))
      k_with "exec While BoolOp" => (k_dflt (k_extra "my while"))
      k_with "STEPC" => (refine wpAny_call ?_; k_dflt (refine' code_hereC ?k1 ?k2 ?k3 ?k4 ?k5 ?kA ?kF ?kK ?k6 ?k7 ?k8 ?k9 ?kB ?kD ?_ ?c2 ?c3 ?c4; (case kA => exact rfl); (case kF => assumption); (case kK => assumption); (case k1 => k_asm); (case k2 => k_asm); (case k3 => k_asm); (case k4 => k_asm); (case k5 => k_asm); (case k6 => k_is); (case k7 => k_is); (case k8 => ktr_room); (case k9 => exact BindsTo.of_eq rfl); (case kB => exact rfl); (case kD => decide +kernel); (case c2 => exact rfl); (case c3 => exact rfl); (case c4 => exact rfl); k_whole; intro g' L' h' tk' cells' S' FG' F' N' Y' B' X' T' l1; (try k_lt l1); k_cells Y'; (try simp only [List.cons_append, List.nil_append] at N'); (try dsimp only); (try k_lift B'); (try k_fold)))
      k_with "ite" => (k_closed; first | refine ite_pos (by decide +kernel) ?_ | refine ite_neg (by decide +kernel) ?_)
      k_with "RELR" => (
        (case B => k_asm); (case F => k_asm); (case X => k_asm); (case N => k_asm); (case T => k_asm); (case hf => exact rfl); (case hk => first | exact rfl | assumption); (case hd => ktr_room); (case hu => ktr_units);
        (case P => k_allIn);
        k_whole)
      intro dp un gd env outer A₀ base h₀ L m s Q E B F X N T hfr hk hd hu hret
      cell_step
      k_steps
      · exact hret _ _ _ _ (by k_asm) (by k_asm) (Stays.back (by assumption) (by assumption) (by assumption)) ⟨rfl, _, LV.some, rfl⟩
  case F9 =>
    intros h9
    k_with_none
    conv at h9 => skip
    conv at h9 => zeta
    exact @ofTag _ _ (tag_triv : type_of% h9)))
set_option maxRecDepth 100000 in
set_option maxHeartbeats 8000000 in
theorem took_ok {x d : Addr} {u1 u2 u3 u4 u5 u6 tk ti : Tok} {vw vb ve vl vd : Value} {k : Kd} {xs : Oct} {i : Int} (hw : WV k xs vw) (hxd : @Ne Nat d x) :
    CallOk prog w p loose mean mg mb 2 16 (.ref 160) [.ref x, .int i ti] [(x, instObj 163 d), (d, skObj w.params u1 u2 u3 u4 u5 u6 (.str (kdStr k) tk) vw vb ve vl vd)]
      (fun r led => r = .none ∧ ∃ t, led = [(x, instObj 163 d), (d, skObj w.params u1 u2 u3 u4 u5 u6 (.str (kdStr k) tk) vw vb ve (.int (i + width k xs) t) (.bool (decide (k = .first))))]) :=
  @ofTag _ _ (by exact tag_triv : Tag (by
  k_with_none
  w_top off
  k_with "ne9" => (first | exact ne_Nat | exact ne_Heap | exact ne_Value | exact ne_Str | exact ne_Int | exact ne_Env | exact ne_Shared | exact ne_Around | exact ne_Program | exact ne_World | exact ne_List | exact ne_Option | exact ne_Arr | exact ne_Obj | exact ne_FuncData | exact ne_prod ne_Nat ne_Obj | exact ne_fun ne_Prop | exact ne_fun (ne_fun ne_Prop) | exact ne_fun ne_Option | exact ⟨Kd.chars⟩ | exact ⟨Opd.zero⟩ | (refine ⟨?_⟩; exact default) | (refine ⟨?_⟩; constructor <;> (first | exact default | exact Kd.chars | exact Opd.zero | exact tupOf #[] 0)))
  revert prog w p loose mean mg mb x d u1 u2 u3 u4 u5 u6 tk ti vw vb ve vl vd k xs i hw hxd
  refine no_implicit_lambda% ((?F9 : @Tag ?T9 (?prf9 : ?T9) → ?T9) tag_triv)
  case prf9 =>
    intro prog w p loose mean mg mb x d u1 u2 u3 u4 u5 u6 tk ti vw vb ve vl vd k xs i hw hxd
    k_with_none
    k_with "ne9" => (first | exact ne_Nat | exact ne_Heap | exact ne_Value | exact ne_Str | exact ne_Int | exact ne_Env | exact ne_Shared | exact ne_Around | exact ne_Program | exact ne_World | exact ne_List | exact ne_Option | exact ne_Arr | exact ne_Obj | exact ne_FuncData | exact ne_prod ne_Nat ne_Obj | exact ne_fun ne_Prop | exact ne_fun (ne_fun ne_Prop) | exact ne_fun ne_Option | exact ⟨Kd.chars⟩ | exact ⟨Opd.zero⟩ | (refine ⟨?_⟩; exact default) | (refine ⟨?_⟩; constructor <;> (first | exact default | exact Kd.chars | exact Opd.zero | exact tupOf #[] 0)))
    k_with "k_lt_skip" => skip
    k_with "k_all" => (first | (with_reducible assumption) | exact all_ne (by with_reducible assumption) (by intro q hq; k_ownIn))
    k_with "k_ne" => (first | exact ne_l (by with_reducible assumption) (by k_memK) | exact Ne.symm (ne_l (by with_reducible assumption) (by k_memK)) | exact ne_l1 (by with_reducible assumption) (by k_memK) | exact ne_l2 (by with_reducible assumption) (by k_memK) | exact ne_l3 (by with_reducible assumption) (by k_memK) | exact Ne.symm (ne_l1 (by with_reducible assumption) (by k_memK)) | exact Ne.symm (ne_l2 (by with_reducible assumption) (by k_memK)))
    k_with "room" => (first | exact rm0 (by with_reducible assumption) | exact rm1 (by with_reducible assumption) (by decide) | exact rm2 (by with_reducible assumption) (by decide) | exact rm3 (by with_reducible assumption) (by decide))
    k_with "units" => (first | exact rm0 (by with_reducible assumption) | exact rm1 (by with_reducible assumption) (by decide) | exact rm2 (by with_reducible assumption) (by decide) | exact rm3 (by with_reducible assumption) (by decide))
    k_with "ktu_obj" => (refine AllObj.cons ?_; intro o' hc'; (try dsimp only at hc'))
    k_with "ItemsRest" => (first | ((with_unfolding_all refine ItemsRest.val ?_); intro h' tk' F'; ktu_objs) | ((with_unfolding_all refine ItemsRest.pair ?_); intro T' t' h' tk' hT' F'; (try dsimp only at hT'); ktu_objs) | ((with_unfolding_all refine ItemsRest.tok ?_); intro t' h' tk' F'; (try dsimp only); ktu_objs) | ((with_unfolding_all refine ItemsRest.zero ?_); intro h' tk' F' N'))
    k_with "call ref" => (k_extra "my call")
    k_with "pyIter ref" => (k_extra "my loop")
    k_with "exec While Compare" => (k_dflt (k_extra "my while"))
    k_with "exec While BoolOp" => (k_dflt (k_extra "my while"))
    k_with "STEPC" => (refine wpAny_call ?_; k_dflt (refine' code_hereC ?k1 ?k2 ?k3 ?k4 ?k5 ?kA ?kF ?kK ?k6 ?k7 ?k8 ?k9 ?kB ?kD ?_ ?c2 ?c3 ?c4; (case kA => exact rfl); (case kF => assumption); (case kK => assumption); (case k1 => k_asm); (case k2 => k_asm); (case k3 => k_asm); (case k4 => k_asm); (case k5 => k_asm); (case k6 => k_is); (case k7 => k_is); (case k8 => ktr_room); (case k9 => exact BindsTo.of_eq rfl); (case kB => exact rfl); (case kD => decide +kernel); (case c2 => exact rfl); (case c3 => exact rfl); (case c4 => exact rfl); k_whole; intro g' L' h' tk' cells' S' FG' F' N' Y' B' X' T' l1; (try k_lt l1); k_cells Y'; (try simp only [List.cons_append, List.nil_append] at N'); (try dsimp only); (try k_lift B'); (try k_fold)))
    k_with "ite" => (k_closed; first | refine ite_pos (by decide +kernel) ?_ | refine ite_neg (by decide +kernel) ?_)
    k_with "RELR" => (
      (case B => k_asm); (case F => k_asm); (case X => k_asm); (case N => k_asm); (case T => k_asm); (case hf => exact rfl); (case hk => first | exact rfl | assumption); (case hd => ktr_room); (case hu => ktr_units);
      (case P => k_allIn);
      k_whole)
    k_with "my call" => (
      (with_reducible show wpAny _ _ (call (Value.ref 139) _) _ _ _)
      k_dflt (refine' CallOk.use (width_ok hw) ?B ?F ?X ?N ?T ?hf ?hk ?hd ?hu ?P ?ap ?_; ktr_rel)
      intro r' led' h' tk' F' N' b' ap' po'; obtain ⟨e1', t', e2'⟩ := po'; subst e1' e2'; clear ap' b'; (try simp only [List.nil_append, List.cons_append] at N'); k_sweep; (try dsimp only))
    intro dp un gd env outer A₀ base h₀ L m s Q E B F X N T hfr hk hd hu hret
    cell_step
    k_steps
    · exact hret _ _ _ _ (by k_asm) (by k_asm) (Stays.back (by assumption) (by assumption) (by assumption)) ⟨rfl, _, by rw [← kd_first]⟩
  case F9 =>
    intros h9
    k_with_none
    conv at h9 => skip
    conv at h9 => zeta
    exact @ofTag _ _ (tag_triv : type_of% h9)))
set_option maxRecDepth 100000 in
set_option maxHeartbeats 8000000 in
theorem is_fit_ok {x d : Addr} {u1 u2 u3 u4 u5 u6 tk tb te ti t1 : Tok} {vw vl : Value} {done : Bool} {k : Kd} {xs os : Oct} {o : Array UInt8} {b e i : Int} {lead : Option Int} (hw : WV k xs vw) (hl : LV lead vl) (ho : KBw.bInts o = os) (lo : os.length ≤ 64) (h0 : 0 ≤ i) :
    CallOk prog w p loose mean mg mb 2 16 (.ref 153) [.ref x, .bytes o t1, .int i ti] [(x, instObj 163 d), (d, skObj w.params u1 u2 u3 u4 u5 u6 (.str (kdStr k) tk) vw (.int b tb) (.int e te) vl (.bool done))]
      (fun r led => led = [(x, instObj 163 d), (d, skObj w.params u1 u2 u3 u4 u5 u6 (.str (kdStr k) tk) vw (.int b tb) (.int e te) vl (.bool done))] ∧ r = .bool (fitB os k xs b e lead done i)) :=
  @ofTag _ _ (by exact tag_triv : Tag (by
  k_with_none
  w_top off
  k_with "ne9" => (first | exact ne_Nat | exact ne_Heap | exact ne_Value | exact ne_Str | exact ne_Int | exact ne_Env | exact ne_Shared | exact ne_Around | exact ne_Program | exact ne_World | exact ne_List | exact ne_Option | exact ne_Arr | exact ne_Obj | exact ne_FuncData | exact ne_prod ne_Nat ne_Obj | exact ne_fun ne_Prop | exact ne_fun (ne_fun ne_Prop) | exact ne_fun ne_Option | exact ⟨Kd.chars⟩ | exact ⟨Opd.zero⟩ | (refine ⟨?_⟩; exact default) | (refine ⟨?_⟩; constructor <;> (first | exact default | exact Kd.chars | exact Opd.zero | exact tupOf #[] 0)))
  revert prog w p loose mean mg mb x d u1 u2 u3 u4 u5 u6 tk tb te ti t1 vw vl done k xs os o b e i lead hw hl ho lo h0
  refine no_implicit_lambda% ((?F9 : @Tag ?T9 (?prf9 : ?T9) → ?T9) tag_triv)
  case prf9 =>
    intro prog w p loose mean mg mb x d u1 u2 u3 u4 u5 u6 tk tb te ti t1 vw vl done k xs os o b e i lead hw hl ho lo h0
    have hw' := hw
    rcases WV.el hw with h9 | h9 <;> rcases LV.el hl with h8 | h8
    · obtain ⟨e1, e2⟩ := h9; obtain ⟨e3, e4⟩ := h8; subst e1 e2 e3 e4
      k_with_none
      k_with "ne9" => (first | exact ne_Nat | exact ne_Heap | exact ne_Value | exact ne_Str | exact ne_Int | exact ne_Env | exact ne_Shared | exact ne_Around | exact ne_Program | exact ne_World | exact ne_List | exact ne_Option | exact ne_Arr | exact ne_Obj | exact ne_FuncData | exact ne_prod ne_Nat ne_Obj | exact ne_fun ne_Prop | exact ne_fun (ne_fun ne_Prop) | exact ne_fun ne_Option | exact ⟨Kd.chars⟩ | exact ⟨Opd.zero⟩ | (refine ⟨?_⟩; exact default) | (refine ⟨?_⟩; constructor <;> (first | exact default | exact Kd.chars | exact Opd.zero | exact tupOf #[] 0)))
      k_with "k_lt_skip" => skip
      k_with "k_all" => (first | (with_reducible assumption) | exact all_ne (by with_reducible assumption) (by intro q hq; k_ownIn))
      k_with "k_ne" => (first | exact ne_l (by with_reducible assumption) (by k_memK) | exact Ne.symm (ne_l (by with_reducible assumption) (by k_memK)) | exact ne_l1 (by with_reducible assumption) (by k_memK) | exact ne_l2 (by with_reducible assumption) (by k_memK) | exact ne_l3 (by with_reducible assumption) (by k_memK) | exact Ne.symm (ne_l1 (by with_reducible assumption) (by k_memK)) | exact Ne.symm (ne_l2 (by with_reducible assumption) (by k_memK)))
      k_with "room" => (first | exact rm0 (by with_reducible assumption) | exact rm1 (by with_reducible assumption) (by decide) | exact rm2 (by with_reducible assumption) (by decide) | exact rm3 (by with_reducible assumption) (by decide))
      k_with "units" => (first | exact rm0 (by with_reducible assumption) | exact rm1 (by with_reducible assumption) (by decide) | exact rm2 (by with_reducible assumption) (by decide) | exact rm3 (by with_reducible assumption) (by decide))
      k_with "ktu_obj" => (refine AllObj.cons ?_; intro o' hc'; (try dsimp only at hc'))
      k_with "ItemsRest" => (first | ((with_unfolding_all refine ItemsRest.val ?_); intro h' tk' F'; ktu_objs) | ((with_unfolding_all refine ItemsRest.pair ?_); intro T' t' h' tk' hT' F'; (try dsimp only at hT'); ktu_objs) | ((with_unfolding_all refine ItemsRest.tok ?_); intro t' h' tk' F'; (try dsimp only); ktu_objs) | ((with_unfolding_all refine ItemsRest.zero ?_); intro h' tk' F' N'))
      k_with "call ref" => (k_extra "my call")
      k_with "pyIter ref" => (k_extra "my loop")
      k_with "exec While Compare" => (k_dflt (k_extra "my while"))
      k_with "exec While BoolOp" => (k_dflt (k_extra "my while"))
      k_with "STEPC" => (refine wpAny_call ?_; k_dflt (refine' code_hereC ?k1 ?k2 ?k3 ?k4 ?k5 ?kA ?kF ?kK ?k6 ?k7 ?k8 ?k9 ?kB ?kD ?_ ?c2 ?c3 ?c4; (case kA => exact rfl); (case kF => assumption); (case kK => assumption); (case k1 => k_asm); (case k2 => k_asm); (case k3 => k_asm); (case k4 => k_asm); (case k5 => k_asm); (case k6 => k_is); (case k7 => k_is); (case k8 => ktr_room); (case k9 => exact BindsTo.of_eq rfl); (case kB => exact rfl); (case kD => decide +kernel); (case c2 => exact rfl); (case c3 => exact rfl); (case c4 => exact rfl); k_whole; intro g' L' h' tk' cells' S' FG' F' N' Y' B' X' T' l1; (try k_lt l1); k_cells Y'; (try simp only [List.cons_append, List.nil_append] at N'); (try dsimp only); (try k_lift B'); (try k_fold)))
      k_with "ite" => (k_closed; first | refine ite_pos (by decide +kernel) ?_ | refine ite_neg (by decide +kernel) ?_)
      k_with "RELR" => (
        (case B => k_asm); (case F => k_asm); (case X => k_asm); (case N => k_asm); (case T => k_asm); (case hf => exact rfl); (case hk => first | exact rfl | assumption); (case hd => ktr_room); (case hu => ktr_units);
        (case P => k_allIn);
        k_whole)
      k_with "my call" => (
        (with_reducible show wpAny _ _ (call (Value.ref 139) _) _ _ _)
        k_dflt (refine' CallOk.use (width_ok hw') ?B ?F ?X ?N ?T ?hf ?hk ?hd ?hu ?P ?ap ?_; ktr_rel)
        intro r' led' h' tk' F' N' b' ap' po'; obtain ⟨e1', t', e2'⟩ := po'; subst e1' e2'; clear ap' b'; (try simp only [List.nil_append, List.cons_append] at N'); k_sweep; (try dsimp only))
      k_with "my call" => (
        (with_reducible show wpAny _ _ (call (Value.ref 69) _) _ _ _)
        k_dflt (refine' CallOk.use (lies_at_ok ho (by assumption) lo (by assumption) h0) ?B ?F ?X ?N ?T ?hf ?hk ?hd ?hu ?P ?ap ?_; ktr_rel)
        intro r' led' h' tk' F' N' b' ap' po'; obtain ⟨e1', e2'⟩ := po'; subst e1' e2'; clear ap' b'; (try simp only [List.nil_append, List.cons_append] at N'); k_sweep; (try dsimp only))
      intro dp un gd env outer A₀ base h₀ L m s Q E B F X N T hfr hk hd hu hret
      cell_step
      k_steps
      all_goals first
        | (exfalso; exact absurd (of_decide_eq_true (kd_chars.symm.trans (by assumption))) (by assumption))
        | (refine hret _ _ _ _ (by k_asm) (by k_asm) (Stays.back (by assumption) (by assumption) (by assumption)) ⟨rfl, congrArg Value.bool (Eq.symm ?_)⟩; first
          | exact fit_done (by assumption)
          | exact fit_lo (by assumption)
          | exact fit_hi (by assumption)
          | exact fit_chars (by assumption) (by assumption) (by assumption)
          | exact fit_lead0 (by assumption)
          | exact fit_other (by assumption) (by assumption) (by assumption) (by assumption) (by assumption)
          | exact fit_lead1 (by assumption) (by assumption)
          | exact fit_lead2 (by assumption) (by assumption) (by assumption) (by assumption) (by assumption)
          | exact fit_lead2 (by assumption) (by omega) (by assumption) (by assumption) (by assumption))
    · obtain ⟨e1, e2⟩ := h9; obtain ⟨j, tj, e3, e4⟩ := h8; subst e1 e2 e3 e4
      k_with_none
      k_with "ne9" => (first | exact ne_Nat | exact ne_Heap | exact ne_Value | exact ne_Str | exact ne_Int | exact ne_Env | exact ne_Shared | exact ne_Around | exact ne_Program | exact ne_World | exact ne_List | exact ne_Option | exact ne_Arr | exact ne_Obj | exact ne_FuncData | exact ne_prod ne_Nat ne_Obj | exact ne_fun ne_Prop | exact ne_fun (ne_fun ne_Prop) | exact ne_fun ne_Option | exact ⟨Kd.chars⟩ | exact ⟨Opd.zero⟩ | (refine ⟨?_⟩; exact default) | (refine ⟨?_⟩; constructor <;> (first | exact default | exact Kd.chars | exact Opd.zero | exact tupOf #[] 0)))
      k_with "k_lt_skip" => skip
      k_with "k_all" => (first | (with_reducible assumption) | exact all_ne (by with_reducible assumption) (by intro q hq; k_ownIn))
      k_with "k_ne" => (first | exact ne_l (by with_reducible assumption) (by k_memK) | exact Ne.symm (ne_l (by with_reducible assumption) (by k_memK)) | exact ne_l1 (by with_reducible assumption) (by k_memK) | exact ne_l2 (by with_reducible assumption) (by k_memK) | exact ne_l3 (by with_reducible assumption) (by k_memK) | exact Ne.symm (ne_l1 (by with_reducible assumption) (by k_memK)) | exact Ne.symm (ne_l2 (by with_reducible assumption) (by k_memK)))
      k_with "room" => (first | exact rm0 (by with_reducible assumption) | exact rm1 (by with_reducible assumption) (by decide) | exact rm2 (by with_reducible assumption) (by decide) | exact rm3 (by with_reducible assumption) (by decide))
      k_with "units" => (first | exact rm0 (by with_reducible assumption) | exact rm1 (by with_reducible assumption) (by decide) | exact rm2 (by with_reducible assumption) (by decide) | exact rm3 (by with_reducible assumption) (by decide))
      k_with "ktu_obj" => (refine AllObj.cons ?_; intro o' hc'; (try dsimp only at hc'))
      k_with "ItemsRest" => (first | ((with_unfolding_all refine ItemsRest.val ?_); intro h' tk' F'; ktu_objs) | ((with_unfolding_all refine ItemsRest.pair ?_); intro T' t' h' tk' hT' F'; (try dsimp only at hT'); ktu_objs) | ((with_unfolding_all refine ItemsRest.tok ?_); intro t' h' tk' F'; (try dsimp only); ktu_objs) | ((with_unfolding_all refine ItemsRest.zero ?_); intro h' tk' F' N'))
      k_with "call ref" => (k_extra "my call")
      k_with "pyIter ref" => (k_extra "my loop")
      k_with "exec While Compare" => (k_dflt (k_extra "my while"))
      k_with "exec While BoolOp" => (k_dflt (k_extra "my while"))
      k_with "STEPC" => (refine wpAny_call ?_; k_dflt (refine' code_hereC ?k1 ?k2 ?k3 ?k4 ?k5 ?kA ?kF ?kK ?k6 ?k7 ?k8 ?k9 ?kB ?kD ?_ ?c2 ?c3 ?c4; (case kA => exact rfl); (case kF => assumption); (case kK => assumption); (case k1 => k_asm); (case k2 => k_asm); (case k3 => k_asm); (case k4 => k_asm); (case k5 => k_asm); (case k6 => k_is); (case k7 => k_is); (case k8 => ktr_room); (case k9 => exact BindsTo.of_eq rfl); (case kB => exact rfl); (case kD => decide +kernel); (case c2 => exact rfl); (case c3 => exact rfl); (case c4 => exact rfl); k_whole; intro g' L' h' tk' cells' S' FG' F' N' Y' B' X' T' l1; (try k_lt l1); k_cells Y'; (try simp only [List.cons_append, List.nil_append] at N'); (try dsimp only); (try k_lift B'); (try k_fold)))
      k_with "ite" => (k_closed; first | refine ite_pos (by decide +kernel) ?_ | refine ite_neg (by decide +kernel) ?_)
      k_with "RELR" => (
        (case B => k_asm); (case F => k_asm); (case X => k_asm); (case N => k_asm); (case T => k_asm); (case hf => exact rfl); (case hk => first | exact rfl | assumption); (case hd => ktr_room); (case hu => ktr_units);
        (case P => k_allIn);
        k_whole)
      k_with "my call" => (
        (with_reducible show wpAny _ _ (call (Value.ref 139) _) _ _ _)
        k_dflt (refine' CallOk.use (width_ok hw') ?B ?F ?X ?N ?T ?hf ?hk ?hd ?hu ?P ?ap ?_; ktr_rel)
        intro r' led' h' tk' F' N' b' ap' po'; obtain ⟨e1', t', e2'⟩ := po'; subst e1' e2'; clear ap' b'; (try simp only [List.nil_append, List.cons_append] at N'); k_sweep; (try dsimp only))
      k_with "my call" => (
        (with_reducible show wpAny _ _ (call (Value.ref 69) _) _ _ _)
        k_dflt (refine' CallOk.use (lies_at_ok ho (by assumption) lo (by assumption) h0) ?B ?F ?X ?N ?T ?hf ?hk ?hd ?hu ?P ?ap ?_; ktr_rel)
        intro r' led' h' tk' F' N' b' ap' po'; obtain ⟨e1', e2'⟩ := po'; subst e1' e2'; clear ap' b'; (try simp only [List.nil_append, List.cons_append] at N'); k_sweep; (try dsimp only))
      intro dp un gd env outer A₀ base h₀ L m s Q E B F X N T hfr hk hd hu hret
      cell_step
      k_steps
      all_goals first
        | (exfalso; exact absurd (of_decide_eq_true (kd_chars.symm.trans (by assumption))) (by assumption))
        | (refine hret _ _ _ _ (by k_asm) (by k_asm) (Stays.back (by assumption) (by assumption) (by assumption)) ⟨rfl, congrArg Value.bool (Eq.symm ?_)⟩; first
          | exact fit_done (by assumption)
          | exact fit_lo (by assumption)
          | exact fit_hi (by assumption)
          | exact fit_chars (by assumption) (by assumption) (by assumption)
          | exact fit_lead0 (by assumption)
          | exact fit_other (by assumption) (by assumption) (by assumption) (by assumption) (by assumption)
          | exact fit_lead1 (by assumption) (by assumption)
          | exact fit_lead2 (by assumption) (by assumption) (by assumption) (by assumption) (by assumption)
          | exact fit_lead2 (by assumption) (by omega) (by assumption) (by assumption) (by assumption))
    · obtain ⟨b8, t8, e1, hk0, hb, l0, l1⟩ := h9; obtain ⟨e3, e4⟩ := h8; subst e1 e3 e4
      k_with_none
      k_with "ne9" => (first | exact ne_Nat | exact ne_Heap | exact ne_Value | exact ne_Str | exact ne_Int | exact ne_Env | exact ne_Shared | exact ne_Around | exact ne_Program | exact ne_World | exact ne_List | exact ne_Option | exact ne_Arr | exact ne_Obj | exact ne_FuncData | exact ne_prod ne_Nat ne_Obj | exact ne_fun ne_Prop | exact ne_fun (ne_fun ne_Prop) | exact ne_fun ne_Option | exact ⟨Kd.chars⟩ | exact ⟨Opd.zero⟩ | (refine ⟨?_⟩; exact default) | (refine ⟨?_⟩; constructor <;> (first | exact default | exact Kd.chars | exact Opd.zero | exact tupOf #[] 0)))
      k_with "k_lt_skip" => skip
      k_with "k_all" => (first | (with_reducible assumption) | exact all_ne (by with_reducible assumption) (by intro q hq; k_ownIn))
      k_with "k_ne" => (first | exact ne_l (by with_reducible assumption) (by k_memK) | exact Ne.symm (ne_l (by with_reducible assumption) (by k_memK)) | exact ne_l1 (by with_reducible assumption) (by k_memK) | exact ne_l2 (by with_reducible assumption) (by k_memK) | exact ne_l3 (by with_reducible assumption) (by k_memK) | exact Ne.symm (ne_l1 (by with_reducible assumption) (by k_memK)) | exact Ne.symm (ne_l2 (by with_reducible assumption) (by k_memK)))
      k_with "room" => (first | exact rm0 (by with_reducible assumption) | exact rm1 (by with_reducible assumption) (by decide) | exact rm2 (by with_reducible assumption) (by decide) | exact rm3 (by with_reducible assumption) (by decide))
      k_with "units" => (first | exact rm0 (by with_reducible assumption) | exact rm1 (by with_reducible assumption) (by decide) | exact rm2 (by with_reducible assumption) (by decide) | exact rm3 (by with_reducible assumption) (by decide))
      k_with "ktu_obj" => (refine AllObj.cons ?_; intro o' hc'; (try dsimp only at hc'))
      k_with "ItemsRest" => (first | ((with_unfolding_all refine ItemsRest.val ?_); intro h' tk' F'; ktu_objs) | ((with_unfolding_all refine ItemsRest.pair ?_); intro T' t' h' tk' hT' F'; (try dsimp only at hT'); ktu_objs) | ((with_unfolding_all refine ItemsRest.tok ?_); intro t' h' tk' F'; (try dsimp only); ktu_objs) | ((with_unfolding_all refine ItemsRest.zero ?_); intro h' tk' F' N'))
      k_with "call ref" => (k_extra "my call")
      k_with "pyIter ref" => (k_extra "my loop")
      k_with "exec While Compare" => (k_dflt (k_extra "my while"))
      k_with "exec While BoolOp" => (k_dflt (k_extra "my while"))
      k_with "STEPC" => (refine wpAny_call ?_; k_dflt (refine' code_hereC ?k1 ?k2 ?k3 ?k4 ?k5 ?kA ?kF ?kK ?k6 ?k7 ?k8 ?k9 ?kB ?kD ?_ ?c2 ?c3 ?c4; (case kA => exact rfl); (case kF => assumption); (case kK => assumption); (case k1 => k_asm); (case k2 => k_asm); (case k3 => k_asm); (case k4 => k_asm); (case k5 => k_asm); (case k6 => k_is); (case k7 => k_is); (case k8 => ktr_room); (case k9 => exact BindsTo.of_eq rfl); (case kB => exact rfl); (case kD => decide +kernel); (case c2 => exact rfl); (case c3 => exact rfl); (case c4 => exact rfl); k_whole; intro g' L' h' tk' cells' S' FG' F' N' Y' B' X' T' l1; (try k_lt l1); k_cells Y'; (try simp only [List.cons_append, List.nil_append] at N'); (try dsimp only); (try k_lift B'); (try k_fold)))
      k_with "ite" => (k_closed; first | refine ite_pos (by decide +kernel) ?_ | refine ite_neg (by decide +kernel) ?_)
      k_with "RELR" => (
        (case B => k_asm); (case F => k_asm); (case X => k_asm); (case N => k_asm); (case T => k_asm); (case hf => exact rfl); (case hk => first | exact rfl | assumption); (case hd => ktr_room); (case hu => ktr_units);
        (case P => k_allIn);
        k_whole)
      k_with "my call" => (
        (with_reducible show wpAny _ _ (call (Value.ref 139) _) _ _ _)
        k_dflt (refine' CallOk.use (width_ok hw') ?B ?F ?X ?N ?T ?hf ?hk ?hd ?hu ?P ?ap ?_; ktr_rel)
        intro r' led' h' tk' F' N' b' ap' po'; obtain ⟨e1', t', e2'⟩ := po'; subst e1' e2'; clear ap' b'; (try simp only [List.nil_append, List.cons_append] at N'); k_sweep; (try dsimp only))
      k_with "my call" => (
        (with_reducible show wpAny _ _ (call (Value.ref 69) _) _ _ _)
        k_dflt (refine' CallOk.use (lies_at_ok ho (by assumption) lo (by assumption) h0) ?B ?F ?X ?N ?T ?hf ?hk ?hd ?hu ?P ?ap ?_; ktr_rel)
        intro r' led' h' tk' F' N' b' ap' po'; obtain ⟨e1', e2'⟩ := po'; subst e1' e2'; clear ap' b'; (try simp only [List.nil_append, List.cons_append] at N'); k_sweep; (try dsimp only))
      intro dp un gd env outer A₀ base h₀ L m s Q E B F X N T hfr hk hd hu hret
      cell_step
      k_steps
      all_goals first
        | (exfalso; exact absurd (of_decide_eq_true (kd_chars.symm.trans (by assumption))) (by assumption))
        | (refine hret _ _ _ _ (by k_asm) (by k_asm) (Stays.back (by assumption) (by assumption) (by assumption)) ⟨rfl, congrArg Value.bool (Eq.symm ?_)⟩; first
          | exact fit_done (by assumption)
          | exact fit_lo (by assumption)
          | exact fit_hi (by assumption)
          | exact fit_chars (by assumption) (by assumption) (by assumption)
          | exact fit_lead0 (by assumption)
          | exact fit_other (by assumption) (by assumption) (by assumption) (by assumption) (by assumption)
          | exact fit_lead1 (by assumption) (by assumption)
          | exact fit_lead2 (by assumption) (by assumption) (by assumption) (by assumption) (by assumption)
          | exact fit_lead2 (by assumption) (by omega) (by assumption) (by assumption) (by assumption))
    · obtain ⟨b8, t8, e1, hk0, hb, l0, l1⟩ := h9; obtain ⟨j, tj, e3, e4⟩ := h8; subst e1 e3 e4
      k_with_none
      k_with "ne9" => (first | exact ne_Nat | exact ne_Heap | exact ne_Value | exact ne_Str | exact ne_Int | exact ne_Env | exact ne_Shared | exact ne_Around | exact ne_Program | exact ne_World | exact ne_List | exact ne_Option | exact ne_Arr | exact ne_Obj | exact ne_FuncData | exact ne_prod ne_Nat ne_Obj | exact ne_fun ne_Prop | exact ne_fun (ne_fun ne_Prop) | exact ne_fun ne_Option | exact ⟨Kd.chars⟩ | exact ⟨Opd.zero⟩ | (refine ⟨?_⟩; exact default) | (refine ⟨?_⟩; constructor <;> (first | exact default | exact Kd.chars | exact Opd.zero | exact tupOf #[] 0)))
      k_with "k_lt_skip" => skip
      k_with "k_all" => (first | (with_reducible assumption) | exact all_ne (by with_reducible assumption) (by intro q hq; k_ownIn))
      k_with "k_ne" => (first | exact ne_l (by with_reducible assumption) (by k_memK) | exact Ne.symm (ne_l (by with_reducible assumption) (by k_memK)) | exact ne_l1 (by with_reducible assumption) (by k_memK) | exact ne_l2 (by with_reducible assumption) (by k_memK) | exact ne_l3 (by with_reducible assumption) (by k_memK) | exact Ne.symm (ne_l1 (by with_reducible assumption) (by k_memK)) | exact Ne.symm (ne_l2 (by with_reducible assumption) (by k_memK)))
      k_with "room" => (first | exact rm0 (by with_reducible assumption) | exact rm1 (by with_reducible assumption) (by decide) | exact rm2 (by with_reducible assumption) (by decide) | exact rm3 (by with_reducible assumption) (by decide))
      k_with "units" => (first | exact rm0 (by with_reducible assumption) | exact rm1 (by with_reducible assumption) (by decide) | exact rm2 (by with_reducible assumption) (by decide) | exact rm3 (by with_reducible assumption) (by decide))
      k_with "ktu_obj" => (refine AllObj.cons ?_; intro o' hc'; (try dsimp only at hc'))
      k_with "ItemsRest" => (first | ((with_unfolding_all refine ItemsRest.val ?_); intro h' tk' F'; ktu_objs) | ((with_unfolding_all refine ItemsRest.pair ?_); intro T' t' h' tk' hT' F'; (try dsimp only at hT'); ktu_objs) | ((with_unfolding_all refine ItemsRest.tok ?_); intro t' h' tk' F'; (try dsimp only); ktu_objs) | ((with_unfolding_all refine ItemsRest.zero ?_); intro h' tk' F' N'))
      k_with "call ref" => (k_extra "my call")
      k_with "pyIter ref" => (k_extra "my loop")
      k_with "exec While Compare" => (k_dflt (k_extra "my while"))
      k_with "exec While BoolOp" => (k_dflt (k_extra "my while"))
      k_with "STEPC" => (refine wpAny_call ?_; k_dflt (refine' code_hereC ?k1 ?k2 ?k3 ?k4 ?k5 ?kA ?kF ?kK ?k6 ?k7 ?k8 ?k9 ?kB ?kD ?_ ?c2 ?c3 ?c4; (case kA => exact rfl); (case kF => assumption); (case kK => assumption); (case k1 => k_asm); (case k2 => k_asm); (case k3 => k_asm); (case k4 => k_asm); (case k5 => k_asm); (case k6 => k_is); (case k7 => k_is); (case k8 => ktr_room); (case k9 => exact BindsTo.of_eq rfl); (case kB => exact rfl); (case kD => decide +kernel); (case c2 => exact rfl); (case c3 => exact rfl); (case c4 => exact rfl); k_whole; intro g' L' h' tk' cells' S' FG' F' N' Y' B' X' T' l1; (try k_lt l1); k_cells Y'; (try simp only [List.cons_append, List.nil_append] at N'); (try dsimp only); (try k_lift B'); (try k_fold)))
      k_with "ite" => (k_closed; first | refine ite_pos (by decide +kernel) ?_ | refine ite_neg (by decide +kernel) ?_)
      k_with "RELR" => (
        (case B => k_asm); (case F => k_asm); (case X => k_asm); (case N => k_asm); (case T => k_asm); (case hf => exact rfl); (case hk => first | exact rfl | assumption); (case hd => ktr_room); (case hu => ktr_units);
        (case P => k_allIn);
        k_whole)
      k_with "my call" => (
        (with_reducible show wpAny _ _ (call (Value.ref 139) _) _ _ _)
        k_dflt (refine' CallOk.use (width_ok hw') ?B ?F ?X ?N ?T ?hf ?hk ?hd ?hu ?P ?ap ?_; ktr_rel)
        intro r' led' h' tk' F' N' b' ap' po'; obtain ⟨e1', t', e2'⟩ := po'; subst e1' e2'; clear ap' b'; (try simp only [List.nil_append, List.cons_append] at N'); k_sweep; (try dsimp only))
      k_with "my call" => (
        (with_reducible show wpAny _ _ (call (Value.ref 69) _) _ _ _)
        k_dflt (refine' CallOk.use (lies_at_ok ho (by assumption) lo (by assumption) h0) ?B ?F ?X ?N ?T ?hf ?hk ?hd ?hu ?P ?ap ?_; ktr_rel)
        intro r' led' h' tk' F' N' b' ap' po'; obtain ⟨e1', e2'⟩ := po'; subst e1' e2'; clear ap' b'; (try simp only [List.nil_append, List.cons_append] at N'); k_sweep; (try dsimp only))
      intro dp un gd env outer A₀ base h₀ L m s Q E B F X N T hfr hk hd hu hret
      cell_step
      k_steps
      all_goals first
        | (exfalso; exact absurd (of_decide_eq_true (kd_chars.symm.trans (by assumption))) (by assumption))
        | (refine hret _ _ _ _ (by k_asm) (by k_asm) (Stays.back (by assumption) (by assumption) (by assumption)) ⟨rfl, congrArg Value.bool (Eq.symm ?_)⟩; first
          | exact fit_done (by assumption)
          | exact fit_lo (by assumption)
          | exact fit_hi (by assumption)
          | exact fit_chars (by assumption) (by assumption) (by assumption)
          | exact fit_lead0 (by assumption)
          | exact fit_other (by assumption) (by assumption) (by assumption) (by assumption) (by assumption)
          | exact fit_lead1 (by assumption) (by assumption)
          | exact fit_lead2 (by assumption) (by assumption) (by assumption) (by assumption) (by assumption)
          | exact fit_lead2 (by assumption) (by omega) (by assumption) (by assumption) (by assumption))
  case F9 =>
    intros h9
    k_with_none
    conv at h9 => skip
    conv at h9 => zeta
    exact @ofTag _ _ (tag_triv : type_of% h9)))
end
end SSeek
section SSeekOf
section
variable {prog : Program} {w : World} {p : Program} {loose : List Str} {mean : ExcName → Option Value} {mg mb : Str → Option Value}
set_option maxRecDepth 100000 in
set_option maxHeartbeats 8000000 in
theorem seeker_of_ok {o : Array UInt8} {os xs : Oct} {t1 tk : Tok} {k : Kd} {vw vb va : Value} {before after : Option Oct} (ho : KBw.bInts o = os) (lo : os.length ≤ 64) (hw : WV k xs vw) (hb : OV before vb) (ha : OV after va) :
    CallOk prog w p loose mean mg mb 4 32 (.ref 174) [.bytes o t1, .str (kdStr k) tk, vw, vb, va] []
      (fun r led => ∃ x d u1 u2 u3 u4 u5 u6 tk' tb te, @Ne Nat d x ∧ r = .ref x ∧ led = [(x, instObj 163 d), (d, skObj w.params u1 u2 u3 u4 u5 u6 (.str (kdStr k) tk') vw (.int (beginOf os after) tb) (.int (endOf os before) te) .none (.bool false))]) :=
  @ofTag _ _ (by exact tag_triv : Tag (by
  k_with_none
  w_top off
  k_with "ne9" => (first | exact ne_Nat | exact ne_Heap | exact ne_Value | exact ne_Str | exact ne_Int | exact ne_Env | exact ne_Shared | exact ne_Around | exact ne_Program | exact ne_World | exact ne_List | exact ne_Option | exact ne_Arr | exact ne_Obj | exact ne_FuncData | exact ne_prod ne_Nat ne_Obj | exact ne_fun ne_Prop | exact ne_fun (ne_fun ne_Prop) | exact ne_fun ne_Option | exact ⟨Kd.chars⟩ | exact ⟨Opd.zero⟩ | (refine ⟨?_⟩; exact default) | (refine ⟨?_⟩; constructor <;> (first | exact default | exact Kd.chars | exact Opd.zero | exact tupOf #[] 0)))
  revert prog w p loose mean mg mb o os xs t1 tk k vw vb va before after ho lo hw hb ha
  refine no_implicit_lambda% ((?F9 : @Tag ?T9 (?prf9 : ?T9) → ?T9) tag_triv)
  case prf9 =>
    intro prog w p loose mean mg mb o os xs t1 tk k vw vb va before after ho lo hw hb ha
    rcases WV.el hw with h9 | h9
    · obtain ⟨e1, e2⟩ := h9; subst e1 e2
      k_with_none
      k_with "ne9" => (first | exact ne_Nat | exact ne_Heap | exact ne_Value | exact ne_Str | exact ne_Int | exact ne_Env | exact ne_Shared | exact ne_Around | exact ne_Program | exact ne_World | exact ne_List | exact ne_Option | exact ne_Arr | exact ne_Obj | exact ne_FuncData | exact ne_prod ne_Nat ne_Obj | exact ne_fun ne_Prop | exact ne_fun (ne_fun ne_Prop) | exact ne_fun ne_Option | exact ⟨Kd.chars⟩ | exact ⟨Opd.zero⟩ | (refine ⟨?_⟩; exact default) | (refine ⟨?_⟩; constructor <;> (first | exact default | exact Kd.chars | exact Opd.zero | exact tupOf #[] 0)))
      k_with "k_lt_skip" => skip
      k_with "k_all" => (first | (with_reducible assumption) | exact all_ne (by with_reducible assumption) (by intro q hq; k_ownIn))
      k_with "k_ne" => (first | exact ne_l (by with_reducible assumption) (by k_memK) | exact Ne.symm (ne_l (by with_reducible assumption) (by k_memK)) | exact ne_l1 (by with_reducible assumption) (by k_memK) | exact ne_l2 (by with_reducible assumption) (by k_memK) | exact ne_l3 (by with_reducible assumption) (by k_memK) | exact Ne.symm (ne_l1 (by with_reducible assumption) (by k_memK)) | exact Ne.symm (ne_l2 (by with_reducible assumption) (by k_memK)))
      k_with "room" => (first | exact rm0 (by with_reducible assumption) | exact rm1 (by with_reducible assumption) (by decide) | exact rm2 (by with_reducible assumption) (by decide) | exact rm3 (by with_reducible assumption) (by decide))
      k_with "units" => (first | exact rm0 (by with_reducible assumption) | exact rm1 (by with_reducible assumption) (by decide) | exact rm2 (by with_reducible assumption) (by decide) | exact rm3 (by with_reducible assumption) (by decide))
      k_with "ktu_obj" => (refine AllObj.cons ?_; intro o' hc'; (try dsimp only at hc'))
      k_with "ItemsRest" => (first | ((with_unfolding_all refine ItemsRest.val ?_); intro h' tk' F'; ktu_objs) | ((with_unfolding_all refine ItemsRest.pair ?_); intro T' t' h' tk' hT' F'; (try dsimp only at hT'); ktu_objs) | ((with_unfolding_all refine ItemsRest.tok ?_); intro t' h' tk' F'; (try dsimp only); ktu_objs) | ((with_unfolding_all refine ItemsRest.zero ?_); intro h' tk' F' N'))
      k_with "call ref" => (k_extra "my call")
      k_with "pyIter ref" => (k_extra "my loop")
      k_with "exec While Compare" => (k_dflt (k_extra "my while"))
      k_with "exec While BoolOp" => (k_dflt (k_extra "my while"))
      k_with "STEPC" => (refine wpAny_call ?_; k_dflt (refine' code_hereC ?k1 ?k2 ?k3 ?k4 ?k5 ?kA ?kF ?kK ?k6 ?k7 ?k8 ?k9 ?kB ?kD ?_ ?c2 ?c3 ?c4; (case kA => exact rfl); (case kF => assumption); (case kK => assumption); (case k1 => k_asm); (case k2 => k_asm); (case k3 => k_asm); (case k4 => k_asm); (case k5 => k_asm); (case k6 => k_is); (case k7 => k_is); (case k8 => ktr_room); (case k9 => exact BindsTo.of_eq rfl); (case kB => exact rfl); (case kD => decide +kernel); (case c2 => exact rfl); (case c3 => exact rfl); (case c4 => exact rfl); k_whole; intro g' L' h' tk' cells' S' FG' F' N' Y' B' X' T' l1; (try k_lt l1); k_cells Y'; (try simp only [List.cons_append, List.nil_append] at N'); (try dsimp only); (try k_lift B'); (try k_fold)))
      k_with "ite" => (k_closed; first | refine ite_pos (by decide +kernel) ?_ | refine ite_neg (by decide +kernel) ?_)
      k_with "RELR" => (
        (case B => k_asm); (case F => k_asm); (case X => k_asm); (case N => k_asm); (case T => k_asm); (case hf => exact rfl); (case hk => first | exact rfl | assumption); (case hd => ktr_room); (case hu => ktr_units);
        (case P => k_allIn);
        k_whole)
      k_with "my call" => (
        (with_reducible show wpAny _ _ (call (Value.ref 111) _) _ _ _)
        k_dflt (refine' CallOk.use (stretch_begin_ok ho lo ha) ?B ?F ?X ?N ?T ?hf ?hk ?hd ?hu ?P ?ap ?_; ktr_rel)
        intro r' led' h' tk' F' N' b' ap' po'; obtain ⟨e1', t', e2'⟩ := po'; subst e1' e2'; clear ap' b'; (try simp only [List.nil_append, List.cons_append] at N'); k_sweep; (try dsimp only))
      k_with "my call" => (
        (with_reducible show wpAny _ _ (call (Value.ref 118) _) _ _ _)
        k_dflt (refine' CallOk.use (stretch_end_ok ho lo hb) ?B ?F ?X ?N ?T ?hf ?hk ?hd ?hu ?P ?ap ?_; ktr_rel)
        intro r' led' h' tk' F' N' b' ap' po'; obtain ⟨e1', t', e2'⟩ := po'; subst e1' e2'; clear ap' b'; (try simp only [List.nil_append, List.cons_append] at N'); k_sweep; (try dsimp only))
      intro dp un gd env outer A₀ base h₀ L m s Q E B F X N T hfr hk hd hu hret
      cell_step
      (try dsimp only [kdStr])
      k_steps
      all_goals (
        first | (exfalso; omega) | refine hret _ _ _ _ (by k_asm) (News.take2 (by assumption)) (Back.take2 (Stays.back (by assumption) (by assumption) (by assumption))) ⟨_, _, _, _, _, _, _, _, _, _, _, (by k_ne), rfl, rfl⟩)
    · obtain ⟨b8, t8, e1, hk0, hb8, l0, l1⟩ := h9; subst e1
      cases k
      · exact absurd rfl hk0
      · skip
        k_with_none
        k_with "ne9" => (first | exact ne_Nat | exact ne_Heap | exact ne_Value | exact ne_Str | exact ne_Int | exact ne_Env | exact ne_Shared | exact ne_Around | exact ne_Program | exact ne_World | exact ne_List | exact ne_Option | exact ne_Arr | exact ne_Obj | exact ne_FuncData | exact ne_prod ne_Nat ne_Obj | exact ne_fun ne_Prop | exact ne_fun (ne_fun ne_Prop) | exact ne_fun ne_Option | exact ⟨Kd.chars⟩ | exact ⟨Opd.zero⟩ | (refine ⟨?_⟩; exact default) | (refine ⟨?_⟩; constructor <;> (first | exact default | exact Kd.chars | exact Opd.zero | exact tupOf #[] 0)))
        k_with "k_lt_skip" => skip
        k_with "k_all" => (first | (with_reducible assumption) | exact all_ne (by with_reducible assumption) (by intro q hq; k_ownIn))
        k_with "k_ne" => (first | exact ne_l (by with_reducible assumption) (by k_memK) | exact Ne.symm (ne_l (by with_reducible assumption) (by k_memK)) | exact ne_l1 (by with_reducible assumption) (by k_memK) | exact ne_l2 (by with_reducible assumption) (by k_memK) | exact ne_l3 (by with_reducible assumption) (by k_memK) | exact Ne.symm (ne_l1 (by with_reducible assumption) (by k_memK)) | exact Ne.symm (ne_l2 (by with_reducible assumption) (by k_memK)))
        k_with "room" => (first | exact rm0 (by with_reducible assumption) | exact rm1 (by with_reducible assumption) (by decide) | exact rm2 (by with_reducible assumption) (by decide) | exact rm3 (by with_reducible assumption) (by decide))
        k_with "units" => (first | exact rm0 (by with_reducible assumption) | exact rm1 (by with_reducible assumption) (by decide) | exact rm2 (by with_reducible assumption) (by decide) | exact rm3 (by with_reducible assumption) (by decide))
        k_with "ktu_obj" => (refine AllObj.cons ?_; intro o' hc'; (try dsimp only at hc'))
        k_with "ItemsRest" => (first | ((with_unfolding_all refine ItemsRest.val ?_); intro h' tk' F'; ktu_objs) | ((with_unfolding_all refine ItemsRest.pair ?_); intro T' t' h' tk' hT' F'; (try dsimp only at hT'); ktu_objs) | ((with_unfolding_all refine ItemsRest.tok ?_); intro t' h' tk' F'; (try dsimp only); ktu_objs) | ((with_unfolding_all refine ItemsRest.zero ?_); intro h' tk' F' N'))
        k_with "call ref" => (k_extra "my call")
        k_with "pyIter ref" => (k_extra "my loop")
        k_with "exec While Compare" => (k_dflt (k_extra "my while"))
        k_with "exec While BoolOp" => (k_dflt (k_extra "my while"))
        k_with "STEPC" => (refine wpAny_call ?_; k_dflt (refine' code_hereC ?k1 ?k2 ?k3 ?k4 ?k5 ?kA ?kF ?kK ?k6 ?k7 ?k8 ?k9 ?kB ?kD ?_ ?c2 ?c3 ?c4; (case kA => exact rfl); (case kF => assumption); (case kK => assumption); (case k1 => k_asm); (case k2 => k_asm); (case k3 => k_asm); (case k4 => k_asm); (case k5 => k_asm); (case k6 => k_is); (case k7 => k_is); (case k8 => ktr_room); (case k9 => exact BindsTo.of_eq rfl); (case kB => exact rfl); (case kD => decide +kernel); (case c2 => exact rfl); (case c3 => exact rfl); (case c4 => exact rfl); k_whole; intro g' L' h' tk' cells' S' FG' F' N' Y' B' X' T' l1; (try k_lt l1); k_cells Y'; (try simp only [List.cons_append, List.nil_append] at N'); (try dsimp only); (try k_lift B'); (try k_fold)))
        k_with "ite" => (k_closed; first | refine ite_pos (by decide +kernel) ?_ | refine ite_neg (by decide +kernel) ?_)
        k_with "RELR" => (
          (case B => k_asm); (case F => k_asm); (case X => k_asm); (case N => k_asm); (case T => k_asm); (case hf => exact rfl); (case hk => first | exact rfl | assumption); (case hd => ktr_room); (case hu => ktr_units);
          (case P => k_allIn);
          k_whole)
        k_with "my call" => (
          (with_reducible show wpAny _ _ (call (Value.ref 111) _) _ _ _)
          k_dflt (refine' CallOk.use (stretch_begin_ok ho lo ha) ?B ?F ?X ?N ?T ?hf ?hk ?hd ?hu ?P ?ap ?_; ktr_rel)
          intro r' led' h' tk' F' N' b' ap' po'; obtain ⟨e1', t', e2'⟩ := po'; subst e1' e2'; clear ap' b'; (try simp only [List.nil_append, List.cons_append] at N'); k_sweep; (try dsimp only))
        k_with "my call" => (
          (with_reducible show wpAny _ _ (call (Value.ref 118) _) _ _ _)
          k_dflt (refine' CallOk.use (stretch_end_ok ho lo hb) ?B ?F ?X ?N ?T ?hf ?hk ?hd ?hu ?P ?ap ?_; ktr_rel)
          intro r' led' h' tk' F' N' b' ap' po'; obtain ⟨e1', t', e2'⟩ := po'; subst e1' e2'; clear ap' b'; (try simp only [List.nil_append, List.cons_append] at N'); k_sweep; (try dsimp only))
        intro dp un gd env outer A₀ base h₀ L m s Q E B F X N T hfr hk hd hu hret
        cell_step
        (try dsimp only [kdStr])
        k_steps
        all_goals (
          first | (exfalso; omega) | refine hret _ _ _ _ (by k_asm) (News.take2 (by assumption)) (Back.take2 (Stays.back (by assumption) (by assumption) (by assumption))) ⟨_, _, _, _, _, _, _, _, _, _, _, (by k_ne), rfl, rfl⟩)
      · skip
        k_with_none
        k_with "ne9" => (first | exact ne_Nat | exact ne_Heap | exact ne_Value | exact ne_Str | exact ne_Int | exact ne_Env | exact ne_Shared | exact ne_Around | exact ne_Program | exact ne_World | exact ne_List | exact ne_Option | exact ne_Arr | exact ne_Obj | exact ne_FuncData | exact ne_prod ne_Nat ne_Obj | exact ne_fun ne_Prop | exact ne_fun (ne_fun ne_Prop) | exact ne_fun ne_Option | exact ⟨Kd.chars⟩ | exact ⟨Opd.zero⟩ | (refine ⟨?_⟩; exact default) | (refine ⟨?_⟩; constructor <;> (first | exact default | exact Kd.chars | exact Opd.zero | exact tupOf #[] 0)))
        k_with "k_lt_skip" => skip
        k_with "k_all" => (first | (with_reducible assumption) | exact all_ne (by with_reducible assumption) (by intro q hq; k_ownIn))
        k_with "k_ne" => (first | exact ne_l (by with_reducible assumption) (by k_memK) | exact Ne.symm (ne_l (by with_reducible assumption) (by k_memK)) | exact ne_l1 (by with_reducible assumption) (by k_memK) | exact ne_l2 (by with_reducible assumption) (by k_memK) | exact ne_l3 (by with_reducible assumption) (by k_memK) | exact Ne.symm (ne_l1 (by with_reducible assumption) (by k_memK)) | exact Ne.symm (ne_l2 (by with_reducible assumption) (by k_memK)))
        k_with "room" => (first | exact rm0 (by with_reducible assumption) | exact rm1 (by with_reducible assumption) (by decide) | exact rm2 (by with_reducible assumption) (by decide) | exact rm3 (by with_reducible assumption) (by decide))
        k_with "units" => (first | exact rm0 (by with_reducible assumption) | exact rm1 (by with_reducible assumption) (by decide) | exact rm2 (by with_reducible assumption) (by decide) | exact rm3 (by with_reducible assumption) (by decide))
        k_with "ktu_obj" => (refine AllObj.cons ?_; intro o' hc'; (try dsimp only at hc'))
        k_with "ItemsRest" => (first | ((with_unfolding_all refine ItemsRest.val ?_); intro h' tk' F'; ktu_objs) | ((with_unfolding_all refine ItemsRest.pair ?_); intro T' t' h' tk' hT' F'; (try dsimp only at hT'); ktu_objs) | ((with_unfolding_all refine ItemsRest.tok ?_); intro t' h' tk' F'; (try dsimp only); ktu_objs) | ((with_unfolding_all refine ItemsRest.zero ?_); intro h' tk' F' N'))
        k_with "call ref" => (k_extra "my call")
        k_with "pyIter ref" => (k_extra "my loop")
        k_with "exec While Compare" => (k_dflt (k_extra "my while"))
        k_with "exec While BoolOp" => (k_dflt (k_extra "my while"))
        k_with "STEPC" => (refine wpAny_call ?_; k_dflt (refine' code_hereC ?k1 ?k2 ?k3 ?k4 ?k5 ?kA ?kF ?kK ?k6 ?k7 ?k8 ?k9 ?kB ?kD ?_ ?c2 ?c3 ?c4; (case kA => exact rfl); (case kF => assumption); (case kK => assumption); (case k1 => k_asm); (case k2 => k_asm); (case k3 => k_asm); (case k4 => k_asm); (case k5 => k_asm); (case k6 => k_is); (case k7 => k_is); (case k8 => ktr_room); (case k9 => exact BindsTo.of_eq rfl); (case kB => exact rfl); (case kD => decide +kernel); (case c2 => exact rfl); (case c3 => exact rfl); (case c4 => exact rfl); k_whole; intro g' L' h' tk' cells' S' FG' F' N' Y' B' X' T' l1; (try k_lt l1); k_cells Y'; (try simp only [List.cons_append, List.nil_append] at N'); (try dsimp only); (try k_lift B'); (try k_fold)))
        k_with "ite" => (k_closed; first | refine ite_pos (by decide +kernel) ?_ | refine ite_neg (by decide +kernel) ?_)
        k_with "RELR" => (
          (case B => k_asm); (case F => k_asm); (case X => k_asm); (case N => k_asm); (case T => k_asm); (case hf => exact rfl); (case hk => first | exact rfl | assumption); (case hd => ktr_room); (case hu => ktr_units);
          (case P => k_allIn);
          k_whole)
        k_with "my call" => (
          (with_reducible show wpAny _ _ (call (Value.ref 111) _) _ _ _)
          k_dflt (refine' CallOk.use (stretch_begin_ok ho lo ha) ?B ?F ?X ?N ?T ?hf ?hk ?hd ?hu ?P ?ap ?_; ktr_rel)
          intro r' led' h' tk' F' N' b' ap' po'; obtain ⟨e1', t', e2'⟩ := po'; subst e1' e2'; clear ap' b'; (try simp only [List.nil_append, List.cons_append] at N'); k_sweep; (try dsimp only))
        k_with "my call" => (
          (with_reducible show wpAny _ _ (call (Value.ref 118) _) _ _ _)
          k_dflt (refine' CallOk.use (stretch_end_ok ho lo hb) ?B ?F ?X ?N ?T ?hf ?hk ?hd ?hu ?P ?ap ?_; ktr_rel)
          intro r' led' h' tk' F' N' b' ap' po'; obtain ⟨e1', t', e2'⟩ := po'; subst e1' e2'; clear ap' b'; (try simp only [List.nil_append, List.cons_append] at N'); k_sweep; (try dsimp only))
        intro dp un gd env outer A₀ base h₀ L m s Q E B F X N T hfr hk hd hu hret
        cell_step
        (try dsimp only [kdStr])
        k_steps
        all_goals (
          first | (exfalso; omega) | refine hret _ _ _ _ (by k_asm) (News.take2 (by assumption)) (Back.take2 (Stays.back (by assumption) (by assumption) (by assumption))) ⟨_, _, _, _, _, _, _, _, _, _, _, (by k_ne), rfl, rfl⟩)
      · skip
        k_with_none
        k_with "ne9" => (first | exact ne_Nat | exact ne_Heap | exact ne_Value | exact ne_Str | exact ne_Int | exact ne_Env | exact ne_Shared | exact ne_Around | exact ne_Program | exact ne_World | exact ne_List | exact ne_Option | exact ne_Arr | exact ne_Obj | exact ne_FuncData | exact ne_prod ne_Nat ne_Obj | exact ne_fun ne_Prop | exact ne_fun (ne_fun ne_Prop) | exact ne_fun ne_Option | exact ⟨Kd.chars⟩ | exact ⟨Opd.zero⟩ | (refine ⟨?_⟩; exact default) | (refine ⟨?_⟩; constructor <;> (first | exact default | exact Kd.chars | exact Opd.zero | exact tupOf #[] 0)))
        k_with "k_lt_skip" => skip
        k_with "k_all" => (first | (with_reducible assumption) | exact all_ne (by with_reducible assumption) (by intro q hq; k_ownIn))
        k_with "k_ne" => (first | exact ne_l (by with_reducible assumption) (by k_memK) | exact Ne.symm (ne_l (by with_reducible assumption) (by k_memK)) | exact ne_l1 (by with_reducible assumption) (by k_memK) | exact ne_l2 (by with_reducible assumption) (by k_memK) | exact ne_l3 (by with_reducible assumption) (by k_memK) | exact Ne.symm (ne_l1 (by with_reducible assumption) (by k_memK)) | exact Ne.symm (ne_l2 (by with_reducible assumption) (by k_memK)))
        k_with "room" => (first | exact rm0 (by with_reducible assumption) | exact rm1 (by with_reducible assumption) (by decide) | exact rm2 (by with_reducible assumption) (by decide) | exact rm3 (by with_reducible assumption) (by decide))
        k_with "units" => (first | exact rm0 (by with_reducible assumption) | exact rm1 (by with_reducible assumption) (by decide) | exact rm2 (by with_reducible assumption) (by decide) | exact rm3 (by with_reducible assumption) (by decide))
        k_with "ktu_obj" => (refine AllObj.cons ?_; intro o' hc'; (try dsimp only at hc'))
        k_with "ItemsRest" => (first | ((with_unfolding_all refine ItemsRest.val ?_); intro h' tk' F'; ktu_objs) | ((with_unfolding_all refine ItemsRest.pair ?_); intro T' t' h' tk' hT' F'; (try dsimp only at hT'); ktu_objs) | ((with_unfolding_all refine ItemsRest.tok ?_); intro t' h' tk' F'; (try dsimp only); ktu_objs) | ((with_unfolding_all refine ItemsRest.zero ?_); intro h' tk' F' N'))
        k_with "call ref" => (k_extra "my call")
        k_with "pyIter ref" => (k_extra "my loop")
        k_with "exec While Compare" => (k_dflt (k_extra "my while"))
        k_with "exec While BoolOp" => (k_dflt (k_extra "my while"))
        k_with "STEPC" => (refine wpAny_call ?_; k_dflt (refine' code_hereC ?k1 ?k2 ?k3 ?k4 ?k5 ?kA ?kF ?kK ?k6 ?k7 ?k8 ?k9 ?kB ?kD ?_ ?c2 ?c3 ?c4; (case kA => exact rfl); (case kF => assumption); (case kK => assumption); (case k1 => k_asm); (case k2 => k_asm); (case k3 => k_asm); (case k4 => k_asm); (case k5 => k_asm); (case k6 => k_is); (case k7 => k_is); (case k8 => ktr_room); (case k9 => exact BindsTo.of_eq rfl); (case kB => exact rfl); (case kD => decide +kernel); (case c2 => exact rfl); (case c3 => exact rfl); (case c4 => exact rfl); k_whole; intro g' L' h' tk' cells' S' FG' F' N' Y' B' X' T' l1; (try k_lt l1); k_cells Y'; (try simp only [List.cons_append, List.nil_append] at N'); (try dsimp only); (try k_lift B'); (try k_fold)))
        k_with "ite" => (k_closed; first | refine ite_pos (by decide +kernel) ?_ | refine ite_neg (by decide +kernel) ?_)
        k_with "RELR" => (
          (case B => k_asm); (case F => k_asm); (case X => k_asm); (case N => k_asm); (case T => k_asm); (case hf => exact rfl); (case hk => first | exact rfl | assumption); (case hd => ktr_room); (case hu => ktr_units);
          (case P => k_allIn);
          k_whole)
        k_with "my call" => (
          (with_reducible show wpAny _ _ (call (Value.ref 111) _) _ _ _)
          k_dflt (refine' CallOk.use (stretch_begin_ok ho lo ha) ?B ?F ?X ?N ?T ?hf ?hk ?hd ?hu ?P ?ap ?_; ktr_rel)
          intro r' led' h' tk' F' N' b' ap' po'; obtain ⟨e1', t', e2'⟩ := po'; subst e1' e2'; clear ap' b'; (try simp only [List.nil_append, List.cons_append] at N'); k_sweep; (try dsimp only))
        k_with "my call" => (
          (with_reducible show wpAny _ _ (call (Value.ref 118) _) _ _ _)
          k_dflt (refine' CallOk.use (stretch_end_ok ho lo hb) ?B ?F ?X ?N ?T ?hf ?hk ?hd ?hu ?P ?ap ?_; ktr_rel)
          intro r' led' h' tk' F' N' b' ap' po'; obtain ⟨e1', t', e2'⟩ := po'; subst e1' e2'; clear ap' b'; (try simp only [List.nil_append, List.cons_append] at N'); k_sweep; (try dsimp only))
        intro dp un gd env outer A₀ base h₀ L m s Q E B F X N T hfr hk hd hu hret
        cell_step
        (try dsimp only [kdStr])
        k_steps
        all_goals (
          first | (exfalso; omega) | refine hret _ _ _ _ (by k_asm) (News.take2 (by assumption)) (Back.take2 (Stays.back (by assumption) (by assumption) (by assumption))) ⟨_, _, _, _, _, _, _, _, _, _, _, (by k_ne), rfl, rfl⟩)
  case F9 =>
    intros h9
    k_with_none
    conv at h9 => skip
    conv at h9 => zeta
    exact @ofTag _ _ (tag_triv : type_of% h9)))
end
end SSeekOf
section SDraw
section
variable {prog : Program} {w : World} {p : Program} {loose : List Str} {mean : ExcName → Option Value} {mg mb : Str → Option Value}
set_option maxRecDepth 100000 in
set_option maxHeartbeats 8000000 in
theorem draw_ok {pa ca : Addr} {cs : List Value} {ns : List Int} {n1 n2 : Nat} {turn rest many : Int} {t1 t2 t3 : Tok} (hi : IntsAre cs ns) (hlen : ns.length ≤ 64) (ht : 0 ≤ turn ∧ turn ≤ 1000) (hm : 1 ≤ many ∧ many ≤ 1000000000) (hpc : @Ne Nat pa ca) :
    CallOk prog w p loose mean mg mb 1 90 (.ref 219) [.ref pa, .int many t1] [(pa, listOf #[.ref ca, .int turn t2, .int rest t3] n1), (ca, listOf cs.toArray n2)]
      (fun r led => ∃ k t turn' rest' t2' t3', r = .int k t ∧ 0 ≤ k ∧ k < many ∧ 0 ≤ turn' ∧ turn' ≤ turn + 1 ∧ led = [(pa, listOf #[.ref ca, .int turn' t2', .int rest' t3'] n1), (ca, listOf cs.toArray n2)]) :=
  @ofTag _ _ (by exact tag_triv : Tag (by
  k_with_none
  w_top off
  k_with "ne9" => (first | exact ne_Nat | exact ne_Heap | exact ne_Value | exact ne_Str | exact ne_Int | exact ne_Env | exact ne_Shared | exact ne_Around | exact ne_Program | exact ne_World | exact ne_List | exact ne_Option | exact ne_Arr | exact ne_Obj | exact ne_FuncData | exact ne_prod ne_Nat ne_Obj | exact ne_fun ne_Prop | exact ne_fun (ne_fun ne_Prop) | exact ne_fun ne_Option | exact ⟨Kd.chars⟩ | exact ⟨Opd.zero⟩ | (refine ⟨?_⟩; exact default) | (refine ⟨?_⟩; constructor <;> (first | exact default | exact Kd.chars | exact Opd.zero | exact tupOf #[] 0)))
  revert prog w p loose mean mg mb pa ca cs ns n1 n2 turn rest many t1 t2 t3 hi hlen ht hm hpc
  refine no_implicit_lambda% ((?F9 : @Tag ?T9 (?prf9 : ?T9) → ?T9) tag_triv)
  case prf9 =>
    intro prog w p loose mean mg mb pa ca cs ns n1 n2 turn rest many t1 t2 t3 hi hlen ht hm hpc
    k_with_none
    k_with "ne9" => (first | exact ne_Nat | exact ne_Heap | exact ne_Value | exact ne_Str | exact ne_Int | exact ne_Env | exact ne_Shared | exact ne_Around | exact ne_Program | exact ne_World | exact ne_List | exact ne_Option | exact ne_Arr | exact ne_Obj | exact ne_FuncData | exact ne_prod ne_Nat ne_Obj | exact ne_fun ne_Prop | exact ne_fun (ne_fun ne_Prop) | exact ne_fun ne_Option | exact ⟨Kd.chars⟩ | exact ⟨Opd.zero⟩ | (refine ⟨?_⟩; exact default) | (refine ⟨?_⟩; constructor <;> (first | exact default | exact Kd.chars | exact Opd.zero | exact tupOf #[] 0)))
    k_with "k_lt_skip" => skip
    k_with "k_all" => (first | (with_reducible assumption) | exact all_ne (by with_reducible assumption) (by intro q hq; k_ownIn))
    k_with "k_ne" => (first | exact ne_l (by with_reducible assumption) (by k_memK) | exact Ne.symm (ne_l (by with_reducible assumption) (by k_memK)) | exact ne_l1 (by with_reducible assumption) (by k_memK) | exact ne_l2 (by with_reducible assumption) (by k_memK) | exact ne_l3 (by with_reducible assumption) (by k_memK) | exact Ne.symm (ne_l1 (by with_reducible assumption) (by k_memK)) | exact Ne.symm (ne_l2 (by with_reducible assumption) (by k_memK)))
    k_with "room" => (first | exact rm0 (by with_reducible assumption) | exact rm1 (by with_reducible assumption) (by decide) | exact rm2 (by with_reducible assumption) (by decide) | exact rm3 (by with_reducible assumption) (by decide))
    k_with "units" => (first | exact rm0 (by with_reducible assumption) | exact rm1 (by with_reducible assumption) (by decide) | exact rm2 (by with_reducible assumption) (by decide) | exact rm3 (by with_reducible assumption) (by decide))
    k_with "ktu_obj" => (refine AllObj.cons ?_; intro o' hc'; (try dsimp only at hc'))
    k_with "ItemsRest" => (first | ((with_unfolding_all refine ItemsRest.val ?_); intro h' tk' F'; ktu_objs) | ((with_unfolding_all refine ItemsRest.pair ?_); intro T' t' h' tk' hT' F'; (try dsimp only at hT'); ktu_objs) | ((with_unfolding_all refine ItemsRest.tok ?_); intro t' h' tk' F'; (try dsimp only); ktu_objs) | ((with_unfolding_all refine ItemsRest.zero ?_); intro h' tk' F' N'))
    k_with "call ref" => (k_extra "my call")
    k_with "pyIter ref" => (k_extra "my loop")
    k_with "exec While Compare" => (k_dflt (k_extra "my while"))
    k_with "exec While BoolOp" => (k_dflt (k_extra "my while"))
    k_with "STEPC" => (refine wpAny_call ?_; k_dflt (refine' code_hereC ?k1 ?k2 ?k3 ?k4 ?k5 ?kA ?kF ?kK ?k6 ?k7 ?k8 ?k9 ?kB ?kD ?_ ?c2 ?c3 ?c4; (case kA => exact rfl); (case kF => assumption); (case kK => assumption); (case k1 => k_asm); (case k2 => k_asm); (case k3 => k_asm); (case k4 => k_asm); (case k5 => k_asm); (case k6 => k_is); (case k7 => k_is); (case k8 => ktr_room); (case k9 => exact BindsTo.of_eq rfl); (case kB => exact rfl); (case kD => decide +kernel); (case c2 => exact rfl); (case c3 => exact rfl); (case c4 => exact rfl); k_whole; intro g' L' h' tk' cells' S' FG' F' N' Y' B' X' T' l1; (try k_lt l1); k_cells Y'; (try simp only [List.cons_append, List.nil_append] at N'); (try dsimp only); (try k_lift B'); (try k_fold)))
    k_with "ite" => (k_closed; first | refine ite_pos (by decide +kernel) ?_ | refine ite_neg (by decide +kernel) ?_)
    k_with "RELR" => (
      (case B => k_asm); (case F => k_asm); (case X => k_asm); (case N => k_asm); (case T => k_asm); (case hf => exact rfl); (case hk => first | exact rfl | assumption); (case hd => ktr_room); (case hu => ktr_units);
      (case P => k_allIn);
      k_whole)
    k_with "binaryOp Mult int int" => (k_here; first | (refine' mul_lit ?pa ?_; (case pa => decide)) | ((refine' mul_rng ?pa ?pb ?pc ?pd ?_; (case pa => omega); (case pb => omega); (case pc => omega); (case pd => omega)); intro z' hz0' hz1'))
    k_with "binaryOp Pow int int" => (k_here; (refine' pow_any ?pa ?pb ?pc ?pd ?_; (case pa => decide); (case pb => decide); (case pc => omega); (case pd => omega)); intro z')
    k_with "binaryOp Mod int int" => (k_here; (refine' mod_any ?pa ?_; (case pa => omega)); intro r' hr0' hr1')
    intro dp un gd env outer A₀ base h₀ L m s Q E B F X N T hfr hk hd hu hret
    cell_step
    k_steps
    all_goals first
      | exact draw_end hret (by k_asm) (by assumption) (Stays.back (by assumption) (by assumption) (by assumption)) (by k_memK) (by k_memK) ht.1 (by assumption) (by assumption) (by first | exact Or.inl rfl | exact Or.inr rfl)
      | exact absurd (List.length_eq_zero_iff.mp (Int.ofNat_eq_zero.mp (by assumption))) (of_decide_eq_false (by assumption))
  case F9 =>
    intros h9
    k_with_none
    conv at h9 => skip
    conv at h9 => zeta
    exact @ofTag _ _ (tag_triv : type_of% h9)))
end
end SDraw
section SPick
section
variable {prog : Program} {w : World} {p : Program} {loose : List Str} {mean : ExcName → Option Value} {mg mb : Str → Option Value}
set_option maxRecDepth 100000 in
set_option maxHeartbeats 8000000 in
theorem pick_bytes_ok {pa ca : Addr} {cs : List Value} {ns : List Int} {n1 n2 : Nat} {turn rest : Int} {t1 t2 t3 : Tok} {b : Array UInt8} {l : List Int} (hb : KBw.bInts b = l) (hl : 0 < l.length ∧ l.length ≤ 64) (hi : IntsAre cs ns) (hlen : ns.length ≤ 64) (ht : 0 ≤ turn ∧ turn ≤ 1000) (hpc : @Ne Nat pa ca) :
    CallOk prog w p loose mean mg mb 2 100 (.ref 226) [.ref pa, .bytes b t1] [(pa, listOf #[.ref ca, .int turn t2, .int rest t3] n1), (ca, listOf cs.toArray n2)]
      (fun r led => ∃ k t turn' rest' t2' t3', r = .int k t ∧ k ∈ l ∧ 0 ≤ turn' ∧ turn' ≤ turn + 1 ∧ led = [(pa, listOf #[.ref ca, .int turn' t2', .int rest' t3'] n1), (ca, listOf cs.toArray n2)]) :=
  @ofTag _ _ (by exact tag_triv : Tag (by
  k_with_none
  w_top off
  k_with "ne9" => (first | exact ne_Nat | exact ne_Heap | exact ne_Value | exact ne_Str | exact ne_Int | exact ne_Env | exact ne_Shared | exact ne_Around | exact ne_Program | exact ne_World | exact ne_List | exact ne_Option | exact ne_Arr | exact ne_Obj | exact ne_FuncData | exact ne_prod ne_Nat ne_Obj | exact ne_fun ne_Prop | exact ne_fun (ne_fun ne_Prop) | exact ne_fun ne_Option | exact ⟨Kd.chars⟩ | exact ⟨Opd.zero⟩ | (refine ⟨?_⟩; exact default) | (refine ⟨?_⟩; constructor <;> (first | exact default | exact Kd.chars | exact Opd.zero | exact tupOf #[] 0)))
  revert prog w p loose mean mg mb pa ca cs ns n1 n2 turn rest t1 t2 t3 b l hb hl hi hlen ht hpc
  refine no_implicit_lambda% ((?F9 : @Tag ?T9 (?prf9 : ?T9) → ?T9) tag_triv)
  case prf9 =>
    intro prog w p loose mean mg mb pa ca cs ns n1 n2 turn rest t1 t2 t3 b l hb hl hi hlen ht hpc
    k_with_none
    k_with "ne9" => (first | exact ne_Nat | exact ne_Heap | exact ne_Value | exact ne_Str | exact ne_Int | exact ne_Env | exact ne_Shared | exact ne_Around | exact ne_Program | exact ne_World | exact ne_List | exact ne_Option | exact ne_Arr | exact ne_Obj | exact ne_FuncData | exact ne_prod ne_Nat ne_Obj | exact ne_fun ne_Prop | exact ne_fun (ne_fun ne_Prop) | exact ne_fun ne_Option | exact ⟨Kd.chars⟩ | exact ⟨Opd.zero⟩ | (refine ⟨?_⟩; exact default) | (refine ⟨?_⟩; constructor <;> (first | exact default | exact Kd.chars | exact Opd.zero | exact tupOf #[] 0)))
    k_with "k_lt_skip" => skip
    k_with "k_all" => (first | (with_reducible assumption) | exact all_ne (by with_reducible assumption) (by intro q hq; k_ownIn))
    k_with "k_ne" => (first | exact ne_l (by with_reducible assumption) (by k_memK) | exact Ne.symm (ne_l (by with_reducible assumption) (by k_memK)) | exact ne_l1 (by with_reducible assumption) (by k_memK) | exact ne_l2 (by with_reducible assumption) (by k_memK) | exact ne_l3 (by with_reducible assumption) (by k_memK) | exact Ne.symm (ne_l1 (by with_reducible assumption) (by k_memK)) | exact Ne.symm (ne_l2 (by with_reducible assumption) (by k_memK)))
    k_with "room" => (first | exact rm0 (by with_reducible assumption) | exact rm1 (by with_reducible assumption) (by decide) | exact rm2 (by with_reducible assumption) (by decide) | exact rm3 (by with_reducible assumption) (by decide))
    k_with "units" => (first | exact rm0 (by with_reducible assumption) | exact rm1 (by with_reducible assumption) (by decide) | exact rm2 (by with_reducible assumption) (by decide) | exact rm3 (by with_reducible assumption) (by decide))
    k_with "ktu_obj" => (refine AllObj.cons ?_; intro o' hc'; (try dsimp only at hc'))
    k_with "ItemsRest" => (first | ((with_unfolding_all refine ItemsRest.val ?_); intro h' tk' F'; ktu_objs) | ((with_unfolding_all refine ItemsRest.pair ?_); intro T' t' h' tk' hT' F'; (try dsimp only at hT'); ktu_objs) | ((with_unfolding_all refine ItemsRest.tok ?_); intro t' h' tk' F'; (try dsimp only); ktu_objs) | ((with_unfolding_all refine ItemsRest.zero ?_); intro h' tk' F' N'))
    k_with "call ref" => (k_extra "my call")
    k_with "pyIter ref" => (k_extra "my loop")
    k_with "exec While Compare" => (k_dflt (k_extra "my while"))
    k_with "exec While BoolOp" => (k_dflt (k_extra "my while"))
    k_with "STEPC" => (refine wpAny_call ?_; k_dflt (refine' code_hereC ?k1 ?k2 ?k3 ?k4 ?k5 ?kA ?kF ?kK ?k6 ?k7 ?k8 ?k9 ?kB ?kD ?_ ?c2 ?c3 ?c4; (case kA => exact rfl); (case kF => assumption); (case kK => assumption); (case k1 => k_asm); (case k2 => k_asm); (case k3 => k_asm); (case k4 => k_asm); (case k5 => k_asm); (case k6 => k_is); (case k7 => k_is); (case k8 => ktr_room); (case k9 => exact BindsTo.of_eq rfl); (case kB => exact rfl); (case kD => decide +kernel); (case c2 => exact rfl); (case c3 => exact rfl); (case c4 => exact rfl); k_whole; intro g' L' h' tk' cells' S' FG' F' N' Y' B' X' T' l1; (try k_lt l1); k_cells Y'; (try simp only [List.cons_append, List.nil_append] at N'); (try dsimp only); (try k_lift B'); (try k_fold)))
    k_with "ite" => (k_closed; first | refine ite_pos (by decide +kernel) ?_ | refine ite_neg (by decide +kernel) ?_)
    k_with "RELR" => (
      (case B => k_asm); (case F => k_asm); (case X => k_asm); (case N => k_asm); (case T => k_asm); (case hf => exact rfl); (case hk => first | exact rfl | assumption); (case hd => ktr_room); (case hu => ktr_units);
      (case P => k_allIn);
      k_whole)
    k_with "my call" => (
      (with_reducible show wpAny _ _ (call (Value.ref 219) _) _ _ _)
      k_dflt (refine' CallOk.use (draw_ok hi hlen ht (by omega) hpc) ?B ?F ?X ?N ?T ?hf ?hk ?hd ?hu ?P ?ap ?_; ktr_rel)
      intro r' led' h' tk' F' N' b' ap' po'; obtain ⟨kk', tt', turn', rest', u2', u3', e1', k0', k1', n0', n1', e2'⟩ := po'; subst e1' e2'; clear ap' b'; (try simp only [List.nil_append, List.cons_append] at N'); k_sweep; (try dsimp only))
    intro dp un gd env outer A₀ base h₀ L m s Q E B F X N T hfr hk hd hu hret
    cell_step
    k_steps
    refine' hret _ _ _ _ (by k_asm) (News.sub (by assumption) ?_) (Back.sub (Stays.back (by assumption) (by assumption) (by assumption)) ?_) ⟨_, _, turn', rest', u2', u3', rfl, getD_mem k0' k1', n0', n1', rfl⟩
    all_goals k_allIn
  case F9 =>
    intros h9
    k_with_none
    conv at h9 => skip
    conv at h9 => zeta
    exact @ofTag _ _ (tag_triv : type_of% h9)))
set_option maxRecDepth 100000 in
set_option maxHeartbeats 8000000 in
theorem pick_list_ok {pa ca sa : Addr} {cs : List Value} {ns : List Int} {n1 n2 n3 : Nat} {turn rest : Int} {t1 t2 t3 v1 v2 v3 : Tok} {b1 b2 b3 : Array UInt8} (hi : IntsAre cs ns) (hlen : ns.length ≤ 64) (ht : 0 ≤ turn ∧ turn ≤ 1000) (hpc : @Ne Nat pa ca) (hps : @Ne Nat pa sa) (hcs : @Ne Nat ca sa) :
    CallOk prog w p loose mean mg mb 2 100 (.ref 226) [.ref pa, .ref sa] [(pa, listOf #[.ref ca, .int turn t2, .int rest t3] n1), (ca, listOf cs.toArray n2), (sa, listOf #[.bytes b1 v1, .bytes b2 v2, .bytes b3 v3] n3)]
      (fun r led => ∃ k t turn' rest' t2' t3', r = .bytes k t ∧ (k = b1 ∨ k = b2 ∨ k = b3) ∧ 0 ≤ turn' ∧ turn' ≤ turn + 1 ∧ led = [(pa, listOf #[.ref ca, .int turn' t2', .int rest' t3'] n1), (ca, listOf cs.toArray n2), (sa, listOf #[.bytes b1 v1, .bytes b2 v2, .bytes b3 v3] n3)]) :=
  @ofTag _ _ (by exact tag_triv : Tag (by
  k_with_none
  w_top off
  k_with "ne9" => (first | exact ne_Nat | exact ne_Heap | exact ne_Value | exact ne_Str | exact ne_Int | exact ne_Env | exact ne_Shared | exact ne_Around | exact ne_Program | exact ne_World | exact ne_List | exact ne_Option | exact ne_Arr | exact ne_Obj | exact ne_FuncData | exact ne_prod ne_Nat ne_Obj | exact ne_fun ne_Prop | exact ne_fun (ne_fun ne_Prop) | exact ne_fun ne_Option | exact ⟨Kd.chars⟩ | exact ⟨Opd.zero⟩ | (refine ⟨?_⟩; exact default) | (refine ⟨?_⟩; constructor <;> (first | exact default | exact Kd.chars | exact Opd.zero | exact tupOf #[] 0)))
  revert prog w p loose mean mg mb pa ca sa cs ns n1 n2 n3 turn rest t1 t2 t3 v1 v2 v3 b1 b2 b3 hi hlen ht hpc hps hcs
  refine no_implicit_lambda% ((?F9 : @Tag ?T9 (?prf9 : ?T9) → ?T9) tag_triv)
  case prf9 =>
    intro prog w p loose mean mg mb pa ca sa cs ns n1 n2 n3 turn rest t1 t2 t3 v1 v2 v3 b1 b2 b3 hi hlen ht hpc hps hcs
    k_with_none
    k_with "ne9" => (first | exact ne_Nat | exact ne_Heap | exact ne_Value | exact ne_Str | exact ne_Int | exact ne_Env | exact ne_Shared | exact ne_Around | exact ne_Program | exact ne_World | exact ne_List | exact ne_Option | exact ne_Arr | exact ne_Obj | exact ne_FuncData | exact ne_prod ne_Nat ne_Obj | exact ne_fun ne_Prop | exact ne_fun (ne_fun ne_Prop) | exact ne_fun ne_Option | exact ⟨Kd.chars⟩ | exact ⟨Opd.zero⟩ | (refine ⟨?_⟩; exact default) | (refine ⟨?_⟩; constructor <;> (first | exact default | exact Kd.chars | exact Opd.zero | exact tupOf #[] 0)))
    k_with "k_lt_skip" => skip
    k_with "k_all" => (first | (with_reducible assumption) | exact all_ne (by with_reducible assumption) (by intro q hq; k_ownIn))
    k_with "k_ne" => (first | exact ne_l (by with_reducible assumption) (by k_memK) | exact Ne.symm (ne_l (by with_reducible assumption) (by k_memK)) | exact ne_l1 (by with_reducible assumption) (by k_memK) | exact ne_l2 (by with_reducible assumption) (by k_memK) | exact ne_l3 (by with_reducible assumption) (by k_memK) | exact Ne.symm (ne_l1 (by with_reducible assumption) (by k_memK)) | exact Ne.symm (ne_l2 (by with_reducible assumption) (by k_memK)))
    k_with "room" => (first | exact rm0 (by with_reducible assumption) | exact rm1 (by with_reducible assumption) (by decide) | exact rm2 (by with_reducible assumption) (by decide) | exact rm3 (by with_reducible assumption) (by decide))
    k_with "units" => (first | exact rm0 (by with_reducible assumption) | exact rm1 (by with_reducible assumption) (by decide) | exact rm2 (by with_reducible assumption) (by decide) | exact rm3 (by with_reducible assumption) (by decide))
    k_with "ktu_obj" => (refine AllObj.cons ?_; intro o' hc'; (try dsimp only at hc'))
    k_with "ItemsRest" => (first | ((with_unfolding_all refine ItemsRest.val ?_); intro h' tk' F'; ktu_objs) | ((with_unfolding_all refine ItemsRest.pair ?_); intro T' t' h' tk' hT' F'; (try dsimp only at hT'); ktu_objs) | ((with_unfolding_all refine ItemsRest.tok ?_); intro t' h' tk' F'; (try dsimp only); ktu_objs) | ((with_unfolding_all refine ItemsRest.zero ?_); intro h' tk' F' N'))
    k_with "call ref" => (k_extra "my call")
    k_with "pyIter ref" => (k_extra "my loop")
    k_with "exec While Compare" => (k_dflt (k_extra "my while"))
    k_with "exec While BoolOp" => (k_dflt (k_extra "my while"))
    k_with "STEPC" => (refine wpAny_call ?_; k_dflt (refine' code_hereC ?k1 ?k2 ?k3 ?k4 ?k5 ?kA ?kF ?kK ?k6 ?k7 ?k8 ?k9 ?kB ?kD ?_ ?c2 ?c3 ?c4; (case kA => exact rfl); (case kF => assumption); (case kK => assumption); (case k1 => k_asm); (case k2 => k_asm); (case k3 => k_asm); (case k4 => k_asm); (case k5 => k_asm); (case k6 => k_is); (case k7 => k_is); (case k8 => ktr_room); (case k9 => exact BindsTo.of_eq rfl); (case kB => exact rfl); (case kD => decide +kernel); (case c2 => exact rfl); (case c3 => exact rfl); (case c4 => exact rfl); k_whole; intro g' L' h' tk' cells' S' FG' F' N' Y' B' X' T' l1; (try k_lt l1); k_cells Y'; (try simp only [List.cons_append, List.nil_append] at N'); (try dsimp only); (try k_lift B'); (try k_fold)))
    k_with "ite" => (k_closed; first | refine ite_pos (by decide +kernel) ?_ | refine ite_neg (by decide +kernel) ?_)
    k_with "RELR" => (
      (case B => k_asm); (case F => k_asm); (case X => k_asm); (case N => k_asm); (case T => k_asm); (case hf => exact rfl); (case hk => first | exact rfl | assumption); (case hd => ktr_room); (case hu => ktr_units);
      (case P => k_allIn);
      k_whole)
    k_with "my call" => (
      (with_reducible show wpAny _ _ (call (Value.ref 219) _) _ _ _)
      k_dflt (refine' CallOk.use (draw_ok hi hlen ht (by omega) hpc) ?B ?F ?X ?N ?T ?hf ?hk ?hd ?hu ?P ?ap ?_; ktr_rel)
      intro r' led' h' tk' F' N' b' ap' po'; obtain ⟨kk', tt', turn', rest', u2', u3', e1', k0', k1', n0', n1', e2'⟩ := po'; subst e1' e2'; clear ap' b'; (try simp only [List.nil_append, List.cons_append] at N'); k_sweep; (try dsimp only))
    intro dp un gd env outer A₀ base h₀ L m s Q E B F X N T hfr hk hd hu hret
    cell_step
    k_steps
    all_goals
      refine' hret _ _ _ _ (by k_asm) (News.sub (by assumption) ?_) (Back.sub (Stays.back (by assumption) (by assumption) (by assumption)) ?_) ⟨_, _, turn', rest', u2', u3', rfl, (by first | exact Or.inl rfl | exact Or.inr (Or.inl rfl) | exact Or.inr (Or.inr rfl)), n0', n1', rfl⟩
      all_goals k_allIn
  case F9 =>
    intros h9
    k_with_none
    conv at h9 => skip
    conv at h9 => zeta
    exact @ofTag _ _ (tag_triv : type_of% h9)))
end
end SPick
section SConst
section
variable {prog : Program} {w : World} {p : Program} {loose : List Str} {mean : ExcName → Option Value} {mg mb : Str → Option Value}
set_option maxRecDepth 100000 in
set_option maxHeartbeats 8000000 in
theorem constant_ok {a : Addr} {obj : Obj} {op : Opd} {size : Int} {t1 : Tok} (ho : OpO op obj) (hs : 0 ≤ size ∧ size ≤ 64) :
    CallOk prog w p loose mean mg mb 1 90 (.ref 233) [.ref a, .int size t1] [(a, obj)] (fun r led => led = [(a, obj)] ∧ ∃ b t, r = .bytes b t ∧ KBw.bInts b = constL op size) :=
  @ofTag _ _ (by exact tag_triv : Tag (by
  k_with_none
  w_top off
  k_with "ne9" => (first | exact ne_Nat | exact ne_Heap | exact ne_Value | exact ne_Str | exact ne_Int | exact ne_Env | exact ne_Shared | exact ne_Around | exact ne_Program | exact ne_World | exact ne_List | exact ne_Option | exact ne_Arr | exact ne_Obj | exact ne_FuncData | exact ne_prod ne_Nat ne_Obj | exact ne_fun ne_Prop | exact ne_fun (ne_fun ne_Prop) | exact ne_fun ne_Option | exact ⟨Kd.chars⟩ | exact ⟨Opd.zero⟩ | (refine ⟨?_⟩; exact default) | (refine ⟨?_⟩; constructor <;> (first | exact default | exact Kd.chars | exact Opd.zero | exact tupOf #[] 0)))
  revert prog w p loose mean mg mb a obj op size t1 ho hs
  refine no_implicit_lambda% ((?F9 : @Tag ?T9 (?prf9 : ?T9) → ?T9) tag_triv)
  case prf9 =>
    intro prog w p loose mean mg mb a obj op size t1 ho hs
    rcases ho with @⟨b, t, t', c, o, hb, hb0, hb1⟩ | @⟨t, t', c⟩ | @⟨t, t', c⟩ | @⟨t, t', c⟩
    · revert b t t' c o; intro b t t' c o; (set_option tactic.hygienic false in intros)
      k_with_none
      k_with "ne9" => (first | exact ne_Nat | exact ne_Heap | exact ne_Value | exact ne_Str | exact ne_Int | exact ne_Env | exact ne_Shared | exact ne_Around | exact ne_Program | exact ne_World | exact ne_List | exact ne_Option | exact ne_Arr | exact ne_Obj | exact ne_FuncData | exact ne_prod ne_Nat ne_Obj | exact ne_fun ne_Prop | exact ne_fun (ne_fun ne_Prop) | exact ne_fun ne_Option | exact ⟨Kd.chars⟩ | exact ⟨Opd.zero⟩ | (refine ⟨?_⟩; exact default) | (refine ⟨?_⟩; constructor <;> (first | exact default | exact Kd.chars | exact Opd.zero | exact tupOf #[] 0)))
      k_with "k_lt_skip" => skip
      k_with "k_all" => (first | (with_reducible assumption) | exact all_ne (by with_reducible assumption) (by intro q hq; k_ownIn))
      k_with "k_ne" => (first | exact ne_l (by with_reducible assumption) (by k_memK) | exact Ne.symm (ne_l (by with_reducible assumption) (by k_memK)) | exact ne_l1 (by with_reducible assumption) (by k_memK) | exact ne_l2 (by with_reducible assumption) (by k_memK) | exact ne_l3 (by with_reducible assumption) (by k_memK) | exact Ne.symm (ne_l1 (by with_reducible assumption) (by k_memK)) | exact Ne.symm (ne_l2 (by with_reducible assumption) (by k_memK)))
      k_with "room" => (first | exact rm0 (by with_reducible assumption) | exact rm1 (by with_reducible assumption) (by decide) | exact rm2 (by with_reducible assumption) (by decide) | exact rm3 (by with_reducible assumption) (by decide))
      k_with "units" => (first | exact rm0 (by with_reducible assumption) | exact rm1 (by with_reducible assumption) (by decide) | exact rm2 (by with_reducible assumption) (by decide) | exact rm3 (by with_reducible assumption) (by decide))
      k_with "ktu_obj" => (refine AllObj.cons ?_; intro o' hc'; (try dsimp only at hc'))
      k_with "ItemsRest" => (first | ((with_unfolding_all refine ItemsRest.val ?_); intro h' tk' F'; ktu_objs) | ((with_unfolding_all refine ItemsRest.pair ?_); intro T' t' h' tk' hT' F'; (try dsimp only at hT'); ktu_objs) | ((with_unfolding_all refine ItemsRest.tok ?_); intro t' h' tk' F'; (try dsimp only); ktu_objs) | ((with_unfolding_all refine ItemsRest.zero ?_); intro h' tk' F' N'))
      k_with "call ref" => (k_extra "my call")
      k_with "pyIter ref" => (k_extra "my loop")
      k_with "exec While Compare" => (k_dflt (k_extra "my while"))
      k_with "exec While BoolOp" => (k_dflt (k_extra "my while"))
      k_with "STEPC" => (refine wpAny_call ?_; k_dflt (refine' code_hereC ?k1 ?k2 ?k3 ?k4 ?k5 ?kA ?kF ?kK ?k6 ?k7 ?k8 ?k9 ?kB ?kD ?_ ?c2 ?c3 ?c4; (case kA => exact rfl); (case kF => assumption); (case kK => assumption); (case k1 => k_asm); (case k2 => k_asm); (case k3 => k_asm); (case k4 => k_asm); (case k5 => k_asm); (case k6 => k_is); (case k7 => k_is); (case k8 => ktr_room); (case k9 => exact BindsTo.of_eq rfl); (case kB => exact rfl); (case kD => decide +kernel); (case c2 => exact rfl); (case c3 => exact rfl); (case c4 => exact rfl); k_whole; intro g' L' h' tk' cells' S' FG' F' N' Y' B' X' T' l1; (try k_lt l1); k_cells Y'; (try simp only [List.cons_append, List.nil_append] at N'); (try dsimp only); (try k_lift B'); (try k_fold)))
      k_with "ite" => (k_closed; first | refine ite_pos (by decide +kernel) ?_ | refine ite_neg (by decide +kernel) ?_)
      k_with "RELR" => (
        (case B => k_asm); (case F => k_asm); (case X => k_asm); (case N => k_asm); (case T => k_asm); (case hf => exact rfl); (case hk => first | exact rfl | assumption); (case hd => ktr_room); (case hu => ktr_units);
        (case P => k_allIn);
        k_whole)
      intro dp un gd env outer A₀ base h₀ L m s Q E B F X N T hfr hk hd hu hret
      cell_step
      k_steps
      refine hret _ _ _ _ (by k_asm) (by assumption) (Stays.back (by assumption) (by assumption) (by assumption)) ⟨rfl, _, _, rfl, by assumption⟩
    · revert t t' c; intro t t' c; (set_option tactic.hygienic false in intros)
      k_with_none
      k_with "ne9" => (first | exact ne_Nat | exact ne_Heap | exact ne_Value | exact ne_Str | exact ne_Int | exact ne_Env | exact ne_Shared | exact ne_Around | exact ne_Program | exact ne_World | exact ne_List | exact ne_Option | exact ne_Arr | exact ne_Obj | exact ne_FuncData | exact ne_prod ne_Nat ne_Obj | exact ne_fun ne_Prop | exact ne_fun (ne_fun ne_Prop) | exact ne_fun ne_Option | exact ⟨Kd.chars⟩ | exact ⟨Opd.zero⟩ | (refine ⟨?_⟩; exact default) | (refine ⟨?_⟩; constructor <;> (first | exact default | exact Kd.chars | exact Opd.zero | exact tupOf #[] 0)))
      k_with "k_lt_skip" => skip
      k_with "k_all" => (first | (with_reducible assumption) | exact all_ne (by with_reducible assumption) (by intro q hq; k_ownIn))
      k_with "k_ne" => (first | exact ne_l (by with_reducible assumption) (by k_memK) | exact Ne.symm (ne_l (by with_reducible assumption) (by k_memK)) | exact ne_l1 (by with_reducible assumption) (by k_memK) | exact ne_l2 (by with_reducible assumption) (by k_memK) | exact ne_l3 (by with_reducible assumption) (by k_memK) | exact Ne.symm (ne_l1 (by with_reducible assumption) (by k_memK)) | exact Ne.symm (ne_l2 (by with_reducible assumption) (by k_memK)))
      k_with "room" => (first | exact rm0 (by with_reducible assumption) | exact rm1 (by with_reducible assumption) (by decide) | exact rm2 (by with_reducible assumption) (by decide) | exact rm3 (by with_reducible assumption) (by decide))
      k_with "units" => (first | exact rm0 (by with_reducible assumption) | exact rm1 (by with_reducible assumption) (by decide) | exact rm2 (by with_reducible assumption) (by decide) | exact rm3 (by with_reducible assumption) (by decide))
      k_with "ktu_obj" => (refine AllObj.cons ?_; intro o' hc'; (try dsimp only at hc'))
      k_with "ItemsRest" => (first | ((with_unfolding_all refine ItemsRest.val ?_); intro h' tk' F'; ktu_objs) | ((with_unfolding_all refine ItemsRest.pair ?_); intro T' t' h' tk' hT' F'; (try dsimp only at hT'); ktu_objs) | ((with_unfolding_all refine ItemsRest.tok ?_); intro t' h' tk' F'; (try dsimp only); ktu_objs) | ((with_unfolding_all refine ItemsRest.zero ?_); intro h' tk' F' N'))
      k_with "call ref" => (k_extra "my call")
      k_with "pyIter ref" => (k_extra "my loop")
      k_with "exec While Compare" => (k_dflt (k_extra "my while"))
      k_with "exec While BoolOp" => (k_dflt (k_extra "my while"))
      k_with "STEPC" => (refine wpAny_call ?_; k_dflt (refine' code_hereC ?k1 ?k2 ?k3 ?k4 ?k5 ?kA ?kF ?kK ?k6 ?k7 ?k8 ?k9 ?kB ?kD ?_ ?c2 ?c3 ?c4; (case kA => exact rfl); (case kF => assumption); (case kK => assumption); (case k1 => k_asm); (case k2 => k_asm); (case k3 => k_asm); (case k4 => k_asm); (case k5 => k_asm); (case k6 => k_is); (case k7 => k_is); (case k8 => ktr_room); (case k9 => exact BindsTo.of_eq rfl); (case kB => exact rfl); (case kD => decide +kernel); (case c2 => exact rfl); (case c3 => exact rfl); (case c4 => exact rfl); k_whole; intro g' L' h' tk' cells' S' FG' F' N' Y' B' X' T' l1; (try k_lt l1); k_cells Y'; (try simp only [List.cons_append, List.nil_append] at N'); (try dsimp only); (try k_lift B'); (try k_fold)))
      k_with "ite" => (k_closed; first | refine ite_pos (by decide +kernel) ?_ | refine ite_neg (by decide +kernel) ?_)
      k_with "RELR" => (
        (case B => k_asm); (case F => k_asm); (case X => k_asm); (case N => k_asm); (case T => k_asm); (case hf => exact rfl); (case hk => first | exact rfl | assumption); (case hd => ktr_room); (case hu => ktr_units);
        (case P => k_allIn);
        k_whole)
      intro dp un gd env outer A₀ base h₀ L m s Q E B F X N T hfr hk hd hu hret
      cell_step
      k_steps
      refine' hret _ _ _ _ (by k_asm) (News.sub (by assumption) ?_) (Back.sub (Stays.back (by assumption) (by assumption) (by assumption)) ?_) ⟨rfl, _, _, rfl, ?_⟩
      any_goals k_allIn
      simp [KBw.bInts, constL]
    · revert t t' c; intro t t' c; (set_option tactic.hygienic false in intros)
      k_with_none
      k_with "ne9" => (first | exact ne_Nat | exact ne_Heap | exact ne_Value | exact ne_Str | exact ne_Int | exact ne_Env | exact ne_Shared | exact ne_Around | exact ne_Program | exact ne_World | exact ne_List | exact ne_Option | exact ne_Arr | exact ne_Obj | exact ne_FuncData | exact ne_prod ne_Nat ne_Obj | exact ne_fun ne_Prop | exact ne_fun (ne_fun ne_Prop) | exact ne_fun ne_Option | exact ⟨Kd.chars⟩ | exact ⟨Opd.zero⟩ | (refine ⟨?_⟩; exact default) | (refine ⟨?_⟩; constructor <;> (first | exact default | exact Kd.chars | exact Opd.zero | exact tupOf #[] 0)))
      k_with "k_lt_skip" => skip
      k_with "k_all" => (first | (with_reducible assumption) | exact all_ne (by with_reducible assumption) (by intro q hq; k_ownIn))
      k_with "k_ne" => (first | exact ne_l (by with_reducible assumption) (by k_memK) | exact Ne.symm (ne_l (by with_reducible assumption) (by k_memK)) | exact ne_l1 (by with_reducible assumption) (by k_memK) | exact ne_l2 (by with_reducible assumption) (by k_memK) | exact ne_l3 (by with_reducible assumption) (by k_memK) | exact Ne.symm (ne_l1 (by with_reducible assumption) (by k_memK)) | exact Ne.symm (ne_l2 (by with_reducible assumption) (by k_memK)))
      k_with "room" => (first | exact rm0 (by with_reducible assumption) | exact rm1 (by with_reducible assumption) (by decide) | exact rm2 (by with_reducible assumption) (by decide) | exact rm3 (by with_reducible assumption) (by decide))
      k_with "units" => (first | exact rm0 (by with_reducible assumption) | exact rm1 (by with_reducible assumption) (by decide) | exact rm2 (by with_reducible assumption) (by decide) | exact rm3 (by with_reducible assumption) (by decide))
      k_with "ktu_obj" => (refine AllObj.cons ?_; intro o' hc'; (try dsimp only at hc'))
      k_with "ItemsRest" => (first | ((with_unfolding_all refine ItemsRest.val ?_); intro h' tk' F'; ktu_objs) | ((with_unfolding_all refine ItemsRest.pair ?_); intro T' t' h' tk' hT' F'; (try dsimp only at hT'); ktu_objs) | ((with_unfolding_all refine ItemsRest.tok ?_); intro t' h' tk' F'; (try dsimp only); ktu_objs) | ((with_unfolding_all refine ItemsRest.zero ?_); intro h' tk' F' N'))
      k_with "call ref" => (k_extra "my call")
      k_with "pyIter ref" => (k_extra "my loop")
      k_with "exec While Compare" => (k_dflt (k_extra "my while"))
      k_with "exec While BoolOp" => (k_dflt (k_extra "my while"))
      k_with "STEPC" => (refine wpAny_call ?_; k_dflt (refine' code_hereC ?k1 ?k2 ?k3 ?k4 ?k5 ?kA ?kF ?kK ?k6 ?k7 ?k8 ?k9 ?kB ?kD ?_ ?c2 ?c3 ?c4; (case kA => exact rfl); (case kF => assumption); (case kK => assumption); (case k1 => k_asm); (case k2 => k_asm); (case k3 => k_asm); (case k4 => k_asm); (case k5 => k_asm); (case k6 => k_is); (case k7 => k_is); (case k8 => ktr_room); (case k9 => exact BindsTo.of_eq rfl); (case kB => exact rfl); (case kD => decide +kernel); (case c2 => exact rfl); (case c3 => exact rfl); (case c4 => exact rfl); k_whole; intro g' L' h' tk' cells' S' FG' F' N' Y' B' X' T' l1; (try k_lt l1); k_cells Y'; (try simp only [List.cons_append, List.nil_append] at N'); (try dsimp only); (try k_lift B'); (try k_fold)))
      k_with "ite" => (k_closed; first | refine ite_pos (by decide +kernel) ?_ | refine ite_neg (by decide +kernel) ?_)
      k_with "RELR" => (
        (case B => k_asm); (case F => k_asm); (case X => k_asm); (case N => k_asm); (case T => k_asm); (case hf => exact rfl); (case hk => first | exact rfl | assumption); (case hd => ktr_room); (case hu => ktr_units);
        (case P => k_allIn);
        k_whole)
      intro dp un gd env outer A₀ base h₀ L m s Q E B F X N T hfr hk hd hu hret
      cell_step
      k_steps
      refine' hret _ _ _ _ (by k_asm) (News.sub (by assumption) ?_) (Back.sub (Stays.back (by assumption) (by assumption) (by assumption)) ?_) ⟨rfl, _, _, rfl, ?_⟩
      any_goals k_allIn
      simp [KBw.bInts, constL]
    · revert t t' c; intro t t' c; (set_option tactic.hygienic false in intros)
      k_with_none
      k_with "ne9" => (first | exact ne_Nat | exact ne_Heap | exact ne_Value | exact ne_Str | exact ne_Int | exact ne_Env | exact ne_Shared | exact ne_Around | exact ne_Program | exact ne_World | exact ne_List | exact ne_Option | exact ne_Arr | exact ne_Obj | exact ne_FuncData | exact ne_prod ne_Nat ne_Obj | exact ne_fun ne_Prop | exact ne_fun (ne_fun ne_Prop) | exact ne_fun ne_Option | exact ⟨Kd.chars⟩ | exact ⟨Opd.zero⟩ | (refine ⟨?_⟩; exact default) | (refine ⟨?_⟩; constructor <;> (first | exact default | exact Kd.chars | exact Opd.zero | exact tupOf #[] 0)))
      k_with "k_lt_skip" => skip
      k_with "k_all" => (first | (with_reducible assumption) | exact all_ne (by with_reducible assumption) (by intro q hq; k_ownIn))
      k_with "k_ne" => (first | exact ne_l (by with_reducible assumption) (by k_memK) | exact Ne.symm (ne_l (by with_reducible assumption) (by k_memK)) | exact ne_l1 (by with_reducible assumption) (by k_memK) | exact ne_l2 (by with_reducible assumption) (by k_memK) | exact ne_l3 (by with_reducible assumption) (by k_memK) | exact Ne.symm (ne_l1 (by with_reducible assumption) (by k_memK)) | exact Ne.symm (ne_l2 (by with_reducible assumption) (by k_memK)))
      k_with "room" => (first | exact rm0 (by with_reducible assumption) | exact rm1 (by with_reducible assumption) (by decide) | exact rm2 (by with_reducible assumption) (by decide) | exact rm3 (by with_reducible assumption) (by decide))
      k_with "units" => (first | exact rm0 (by with_reducible assumption) | exact rm1 (by with_reducible assumption) (by decide) | exact rm2 (by with_reducible assumption) (by decide) | exact rm3 (by with_reducible assumption) (by decide))
      k_with "ktu_obj" => (refine AllObj.cons ?_; intro o' hc'; (try dsimp only at hc'))
      k_with "ItemsRest" => (first | ((with_unfolding_all refine ItemsRest.val ?_); intro h' tk' F'; ktu_objs) | ((with_unfolding_all refine ItemsRest.pair ?_); intro T' t' h' tk' hT' F'; (try dsimp only at hT'); ktu_objs) | ((with_unfolding_all refine ItemsRest.tok ?_); intro t' h' tk' F'; (try dsimp only); ktu_objs) | ((with_unfolding_all refine ItemsRest.zero ?_); intro h' tk' F' N'))
      k_with "call ref" => (k_extra "my call")
      k_with "pyIter ref" => (k_extra "my loop")
      k_with "exec While Compare" => (k_dflt (k_extra "my while"))
      k_with "exec While BoolOp" => (k_dflt (k_extra "my while"))
      k_with "STEPC" => (refine wpAny_call ?_; k_dflt (refine' code_hereC ?k1 ?k2 ?k3 ?k4 ?k5 ?kA ?kF ?kK ?k6 ?k7 ?k8 ?k9 ?kB ?kD ?_ ?c2 ?c3 ?c4; (case kA => exact rfl); (case kF => assumption); (case kK => assumption); (case k1 => k_asm); (case k2 => k_asm); (case k3 => k_asm); (case k4 => k_asm); (case k5 => k_asm); (case k6 => k_is); (case k7 => k_is); (case k8 => ktr_room); (case k9 => exact BindsTo.of_eq rfl); (case kB => exact rfl); (case kD => decide +kernel); (case c2 => exact rfl); (case c3 => exact rfl); (case c4 => exact rfl); k_whole; intro g' L' h' tk' cells' S' FG' F' N' Y' B' X' T' l1; (try k_lt l1); k_cells Y'; (try simp only [List.cons_append, List.nil_append] at N'); (try dsimp only); (try k_lift B'); (try k_fold)))
      k_with "ite" => (k_closed; first | refine ite_pos (by decide +kernel) ?_ | refine ite_neg (by decide +kernel) ?_)
      k_with "RELR" => (
        (case B => k_asm); (case F => k_asm); (case X => k_asm); (case N => k_asm); (case T => k_asm); (case hf => exact rfl); (case hk => first | exact rfl | assumption); (case hd => ktr_room); (case hu => ktr_units);
        (case P => k_allIn);
        k_whole)
      intro dp un gd env outer A₀ base h₀ L m s Q E B F X N T hfr hk hd hu hret
      cell_step
      k_steps
      refine' hret _ _ _ _ (by k_asm) (News.sub (by assumption) ?_) (Back.sub (Stays.back (by assumption) (by assumption) (by assumption)) ?_) ⟨rfl, _, _, rfl, ?_⟩
      any_goals k_allIn
      simp [KBw.bInts, constL]
  case F9 =>
    intros h9
    k_with_none
    conv at h9 => skip
    conv at h9 => zeta
    exact @ofTag _ _ (tag_triv : type_of% h9)))
end
end SConst
section SFits1
section
variable {prog : Program} {w : World} {p : Program} {loose : List Str} {mean : ExcName → Option Value} {mg mb : Str → Option Value}
set_option maxRecDepth 100000 in
set_option maxHeartbeats 8000000 in
theorem fits_in1_ok {x d sl : Addr} {u1 u2 u3 u4 u5 u6 ukd tb te t1 : Tok} {n0 : Nat} {vw vl₀ : Value} {done₀ : Bool} {k : Kd} {xs os : Oct} {o : Array UInt8} {b e : Int} {lead₀ : Option Int} (hw : WV k xs vw) (hl : LV lead₀ vl₀) (ho : KBw.bInts o = os) (lo : os.length ≤ 64)
    (hxd : @Ne Nat d x) (hxl : @Ne Nat sl x) (hdl : @Ne Nat sl d) :
    CallOk prog w p loose mean mg mb 3 64 (.ref 181) [.bytes o t1, .ref sl] [(x, instObj 163 d), (d, skObj w.params u1 u2 u3 u4 u5 u6 (.str (kdStr k) ukd) vw (.int b tb) (.int e te) vl₀ (.bool done₀)), (sl, listOf #[.ref x] n0)]
      (fun r led => ∃ fa vs n tl vl vd, r = .ref fa ∧ PairsIn tl vs (fitsF os os.length 0 [⟨k, xs, b, e, lead₀, done₀⟩]) ∧ OwnOff tl [fa, x, d, sl] ∧ (@Ne Nat fa x ∧ @Ne Nat fa d ∧ @Ne Nat fa sl) ∧ led = (fa, listOf vs.toArray n) :: (x, instObj 163 d) :: (d, skObj w.params u1 u2 u3 u4 u5 u6 (.str (kdStr k) ukd) vw (.int b tb) (.int e te) vl vd) :: (sl, listOf #[.ref x] n0) :: tl) :=
  @ofTag _ _ (by exact tag_triv : Tag (by
  k_with_none
  w_top off
  k_with "ne9" => (first | exact ne_Nat | exact ne_Heap | exact ne_Value | exact ne_Str | exact ne_Int | exact ne_Env | exact ne_Shared | exact ne_Around | exact ne_Program | exact ne_World | exact ne_List | exact ne_Option | exact ne_Arr | exact ne_Obj | exact ne_FuncData | exact ne_prod ne_Nat ne_Obj | exact ne_fun ne_Prop | exact ne_fun (ne_fun ne_Prop) | exact ne_fun ne_Option | exact ⟨Kd.chars⟩ | exact ⟨Opd.zero⟩ | (refine ⟨?_⟩; exact default) | (refine ⟨?_⟩; constructor <;> (first | exact default | exact Kd.chars | exact Opd.zero | exact tupOf #[] 0)))
  revert prog w p loose mean mg mb x d sl u1 u2 u3 u4 u5 u6 ukd tb te t1 n0 vw vl₀ done₀ k xs os o b e lead₀ hw hl ho lo hxd hxl hdl
  refine no_implicit_lambda% ((?F9 : @Tag ?T9 (?prf9 : ?T9) → ?T9) tag_triv)
  case prf9 =>
    intro prog w p loose mean mg mb x d sl u1 u2 u3 u4 u5 u6 ukd tb te t1 n0 vw vl₀ done₀ k xs os o b e lead₀ hw hl ho lo hxd hxl hdl
    k_with_none
    k_with "ne9" => (first | exact ne_Nat | exact ne_Heap | exact ne_Value | exact ne_Str | exact ne_Int | exact ne_Env | exact ne_Shared | exact ne_Around | exact ne_Program | exact ne_World | exact ne_List | exact ne_Option | exact ne_Arr | exact ne_Obj | exact ne_FuncData | exact ne_prod ne_Nat ne_Obj | exact ne_fun ne_Prop | exact ne_fun (ne_fun ne_Prop) | exact ne_fun ne_Option | exact ⟨Kd.chars⟩ | exact ⟨Opd.zero⟩ | (refine ⟨?_⟩; exact default) | (refine ⟨?_⟩; constructor <;> (first | exact default | exact Kd.chars | exact Opd.zero | exact tupOf #[] 0)))
    k_with "k_lt_skip" => skip
    k_with "k_all" => (first | (with_reducible assumption) | exact all_ne (by with_reducible assumption) (by intro q hq; k_ownIn))
    k_with "k_ne" => (first | exact ne_l (by with_reducible assumption) (by k_memK) | exact Ne.symm (ne_l (by with_reducible assumption) (by k_memK)) | exact ne_l1 (by with_reducible assumption) (by k_memK) | exact ne_l2 (by with_reducible assumption) (by k_memK) | exact ne_l3 (by with_reducible assumption) (by k_memK) | exact Ne.symm (ne_l1 (by with_reducible assumption) (by k_memK)) | exact Ne.symm (ne_l2 (by with_reducible assumption) (by k_memK)))
    k_with "room" => (first | exact rm0 (by with_reducible assumption) | exact rm1 (by with_reducible assumption) (by decide) | exact rm2 (by with_reducible assumption) (by decide) | exact rm3 (by with_reducible assumption) (by decide))
    k_with "units" => (first | exact rm0 (by with_reducible assumption) | exact rm1 (by with_reducible assumption) (by decide) | exact rm2 (by with_reducible assumption) (by decide) | exact rm3 (by with_reducible assumption) (by decide))
    k_with "ktu_obj" => (refine AllObj.cons ?_; intro o' hc'; (try dsimp only at hc'))
    k_with "ItemsRest" => (first | ((with_unfolding_all refine ItemsRest.val ?_); intro h' tk' F'; ktu_objs) | ((with_unfolding_all refine ItemsRest.pair ?_); intro T' t' h' tk' hT' F'; (try dsimp only at hT'); ktu_objs) | ((with_unfolding_all refine ItemsRest.tok ?_); intro t' h' tk' F'; (try dsimp only); ktu_objs) | ((with_unfolding_all refine ItemsRest.zero ?_); intro h' tk' F' N'))
    k_with "call ref" => (k_extra "my call")
    k_with "pyIter ref" => (k_extra "my loop")
    k_with "exec While Compare" => (k_dflt (k_extra "my while"))
    k_with "exec While BoolOp" => (k_dflt (k_extra "my while"))
    k_with "STEPC" => (refine wpAny_call ?_; k_dflt (refine' code_hereC ?k1 ?k2 ?k3 ?k4 ?k5 ?kA ?kF ?kK ?k6 ?k7 ?k8 ?k9 ?kB ?kD ?_ ?c2 ?c3 ?c4; (case kA => exact rfl); (case kF => assumption); (case kK => assumption); (case k1 => k_asm); (case k2 => k_asm); (case k3 => k_asm); (case k4 => k_asm); (case k5 => k_asm); (case k6 => k_is); (case k7 => k_is); (case k8 => ktr_room); (case k9 => exact BindsTo.of_eq rfl); (case kB => exact rfl); (case kD => decide +kernel); (case c2 => exact rfl); (case c3 => exact rfl); (case c4 => exact rfl); k_whole; intro g' L' h' tk' cells' S' FG' F' N' Y' B' X' T' l1; (try k_lt l1); k_cells Y'; (try simp only [List.cons_append, List.nil_append] at N'); (try dsimp only); (try k_lift B'); (try k_fold)))
    k_with "ite" => (k_closed; first | refine ite_pos (by decide +kernel) ?_ | refine ite_neg (by decide +kernel) ?_)
    k_with "RELR" => (
      (case B => k_asm); (case F => k_asm); (case X => k_asm); (case N => k_asm); (case T => k_asm); (case hf => exact rfl); (case hk => first | exact rfl | assumption); (case hd => ktr_room); (case hu => ktr_units);
      (case P => k_allIn);
      k_whole)
    k_with "subscriptTail Name Name ref int" => (k_here; walk_at "subscriptTail")
    k_with "my call" => (
      (with_reducible show wpAny _ _ (call (Value.ref 146) _) _ _ _)
      k_dflt (refine' CallOk.use (reach_ok (by assumption) hxd) ?B ?F ?X ?N ?T ?hf ?hk ?hd ?hu ?P ?ap ?_; ktr_rel)
      intro r' led' h' ukd' F' N' b' ap' po'; obtain ⟨e1', vl', hlv', e2'⟩ := po'; subst e1' e2'; clear ap' b'; (try simp only [List.nil_append, List.cons_append] at N'); k_sweep; (try dsimp only))
    k_with "my call" => (
      (with_reducible show wpAny _ _ (call (Value.ref 153) _) _ _ _)
      k_dflt (refine' CallOk.use (is_fit_ok hw (by assumption) ho lo h0) ?B ?F ?X ?N ?T ?hf ?hk ?hd ?hu ?P ?ap ?_; ktr_rel)
      intro r' led' h' tk' F' N' b' ap' po'; obtain ⟨e1', e2'⟩ := po'; subst e1' e2'; clear ap' b'; (try simp only [List.nil_append, List.cons_append] at N'); k_sweep; (try dsimp only))
    k_with "my call" => (
      (with_reducible show wpAny _ _ (call (Value.ref 160) _) _ _ _)
      k_dflt (refine' CallOk.use (took_ok hw hxd) ?B ?F ?X ?N ?T ?hf ?hk ?hd ?hu ?P ?ap ?_; ktr_rel)
      intro r' led' h' tk' F' N' b' ap' po'; obtain ⟨e1', tt', e2'⟩ := po'; subst e1' e2'; clear ap' b'; (try simp only [List.nil_append, List.cons_append] at N'); k_sweep; (try dsimp only))
    k_with "my call" => (
      (with_reducible show wpAny _ _ (call (Value.ref 139) _) _ _ _)
      k_dflt (refine' CallOk.use (width_ok hw) ?B ?F ?X ?N ?T ?hf ?hk ?hd ?hu ?P ?ap ?_; ktr_rel)
      intro r' led' h' tk' F' N' b' ap' po'; obtain ⟨e1', tt', e2'⟩ := po'; subst e1' e2'; clear ap' b'; (try simp only [List.nil_append, List.cons_append] at N'); k_sweep; (try dsimp only))
    k_with "my while" => (
      (rename Fr _ _ _ _ => lF'); (rename News _ _ _ _ => lN');
      (with_unfolding_all refine' ksw_while (σ := F1) (F1.led ?fa x d sl n0 (fun vl vd => skObj w.params u1 u2 u3 u4 u5 u6 (.str (kdStr k) ukd) vw (.int b tb) (.int e te) vl vd)) (fun c => [(Str.ofString "at", Value.int c.i c.ti)]) (fun _ => True) [Str.ofString "taker", Str.ofString "number", Str.ofString "seeker"] (F1.P ?fa x d sl os k xs b e (fitsF os os.length 0 [⟨k, xs, b, e, lead₀, done₀⟩])) (fun c => (os.length - c.i).toNat) ⟨[], _, [], [], 0, _, vl₀, lead₀, done₀⟩ lF' (News.tail1 lN') True.intro ?hk ⟨Int.le_refl 0, Int.le_refl 0, fun _ h => (nomatch h), PairsIn.nil, hl, os.length, (by show (os.length : Int) - 0 ≤ (os.length : Int); omega), rfl⟩ ?turn);
      (case hk => (intro q hq; rcases List.mem_cons.mp hq with rfl | hq; k_dflt (exact rfl); cases hq));
      (clear lF' lN');
      (intro zz8 u h tk zz7 zz9 F' N'; obtain ⟨vs, n, tl, fs, i, ti, vl, lead, done⟩ := zz8; obtain ⟨h0, hlen, hoff, hpr, hlv, fuel, hfu, hsum⟩ := zz9); (try dsimp only at h0 hlen hoff hpr hlv hfu hsum N' F'); (try k_fold))
    k_with "call type:enumerate" => k_dflt (
      (rename Fr _ _ _ _ => lF'); (rename News _ _ _ _ => lN');
      (with_unfolding_all refine' ktu_enum (lo := listOf #[.ref x] n0) (vs := [.ref x]) (xs := [Itm.pair (fun t => Value.int 0 t) (.ref x)]) (by rfl) lF' lN' (by k_mem) (by rfl) (by rfl) (by rfl) ?_);
      clear lF'; intro i' hI1; (have hI0 := hI1); (replace hI1 := allLt_of hI1; simp only [AllLt, and_true] at hI1))
    k_with "UnrEndW" => k_dflt (
      (rename News _ _ _ _ => nE');
      (refine unrEnd_tail [(_, listOf vs.toArray n), (x, instObj 163 d), (d, _), (sl, listOf #[.ref x] n0)] tl (by assumption) nE' (by k_allIn) (by k_allIn) (by (intro p hp; k_ownIn)) (by ktu_offL) (tail_two hI1.2.2.2.2 (Nat.le_succ _) (Nat.le_refl _)) ?_);
      (refine ⟨by k_subL, ?_⟩);
      (simp only [List.cons_append, List.nil_append]))
    intro dp un gd env outer A₀ base h₀ L m s Q E B F X N T hfr hk hd hu hret
    cell_step
    k_steps
    · have hwp := width_pos hw
      obtain ⟨f', hf1, hf2⟩ := step1_some (by assumption) hfu hsum (by assumption) hwp.1
      have hlt' : i < (os.length : Int) := by assumption
      rename News _ _ _ _ => nE'
      try simp only [List.push_toArray] at nE'
      refine ksw_end ⟨vs ++ [.ref ?wD], ?wn, (?wD, tupOf #[.int i ?wt, .int ((0 : Nat) : Int) ?wu] ?wc) :: tl, fs ++ [(i, 0)], i + width k xs, ?wi, .int (i + width k xs) ?wl, some (i + width k xs), decide (k = .first)⟩ (by with_reducible assumption) nE' ?hn True.intro ?hk ?hr ⟨?p1, ?p2, ?p3, hpr.snoc, LV.some, f', hf1, hf2⟩ ?hm
      case hn =>
        dsimp only [F1.led]
        repeat (refine List.forall_mem_cons.mpr ?_; refine And.intro (by k_memK) ?_)
        intro p hp; k_ownIn
      case hk => intro q hq; rcases List.mem_cons.mp hq with rfl | hq; exact rfl; cases hq
      case hr =>
        intro z h2 h3
        have h2' := h2 _ (List.Mem.head _)
        dsimp only at h2'
        simp only [List.contains_cons, List.contains_nil, Bool.or_false, Bool.or_eq_false_iff, beq_eq_false_iff_ne, ne_eq] at h3
        simp [kstB, h2', h3]
      case p1 => show (0 : Int) ≤ i + width k xs; omega
      case p2 => show ((vs ++ [_]).length : Int) ≤ i + width k xs; rw [List.length_append]; simp only [List.length_cons, List.length_nil]; omega
      case p3 => exact OwnOff.cons hoff (by repeat' (first | exact List.forall_mem_nil _ | refine List.forall_mem_cons.mpr ?_; refine And.intro (by k_ne) ?_))
      case hm => show (os.length - (i + width k xs)).toNat < (os.length - i).toNat; omega
    · obtain ⟨f', hf1, hf2⟩ := step1_none (by assumption) hfu hsum (by assumption)
      have hlt' : i < (os.length : Int) := by assumption
      rename News _ _ _ _ => nE'
      refine ksw_end ⟨vs, n, tl, fs, i + 1, ?vi, ?vv, reachL b e lead i, done⟩ (by with_reducible assumption) nE' ?hn2 True.intro ?hk2 ?hr2 ⟨?q1, ?q2, hoff, hpr, ?q3, f', hf1, hf2⟩ ?hm2
      case hn2 =>
        dsimp only [F1.led]
        repeat (refine List.forall_mem_cons.mpr ?_; refine And.intro (by k_memK) ?_)
        intro p hp; k_ownIn
      case hk2 => intro q hq; rcases List.mem_cons.mp hq with rfl | hq; exact rfl; cases hq
      case hr2 =>
        intro z h2 h3
        have h2' := h2 _ (List.Mem.head _)
        dsimp only at h2'
        simp only [List.contains_cons, List.contains_nil, Bool.or_false, Bool.or_eq_false_iff, beq_eq_false_iff_ne, ne_eq] at h3
        simp [kstB, h2', h3]
      case q3 => assumption
      case q1 => show (0 : Int) ≤ i + 1; omega
      case q2 => show (vs.length : Int) ≤ i + 1; omega
      case hm2 => show (os.length - (i + 1)).toNat < (os.length - i).toNat; omega
    · have hfs := fits_end (by assumption) hsum
      refine hret _ _ _ _ (by k_asm) (by assumption) (Stays.back (by assumption) (by assumption) (by assumption)) ⟨_, _, _, _, _, _, rfl, hfs ▸ hpr, hoff, ⟨by k_ne, by k_ne, by k_ne⟩, rfl⟩
  case F9 =>
    intros h9
    k_with_none
    conv at h9 => skip
    conv at h9 => zeta
    exact @ofTag _ _ (tag_triv : type_of% h9)))
end
end SFits1
section SFits2o
section
variable {prog : Program} {w : World} {p : Program} {loose : List Str} {mean : ExcName → Option Value} {mg mb : Str → Option Value}
set_option maxRecDepth 100000 in
set_option maxHeartbeats 8000000 in
theorem fits_in2_ok {x d x2 d2 sl : Addr} {u1 u2 u3 u4 u5 u6 ukd tb te t1 v1 v2 v3 v4 v5 v6 vkd tb2 te2 : Tok} {n0 : Nat} {vw vl₀ vw2 vl2₀ : Value} {done₀ done2₀ : Bool} {k k2 : Kd} {xs ys os : Oct} {o : Array UInt8} {b e b2 e2 : Int} {lead₀ lead2₀ : Option Int}
    (hw : WV k xs vw) (hl : LV lead₀ vl₀) (hw2 : WV k2 ys vw2) (hl2 : LV lead2₀ vl2₀) (ho : KBw.bInts o = os) (lo : os.length ≤ 64)
    (hxd : @Ne Nat d x) (hxl : @Ne Nat sl x) (hdl : @Ne Nat sl d) (hxd2 : @Ne Nat d2 x2) (hxl2 : @Ne Nat sl x2) (hdl2 : @Ne Nat sl d2) (hxx : @Ne Nat x x2) (hxd3 : @Ne Nat x d2) (hdx3 : @Ne Nat d x2) (hdd3 : @Ne Nat d d2) :
    CallOk prog w p loose mean mg mb 3 64 (.ref 181) [.bytes o t1, .ref sl] [(x, instObj 163 d), (d, skObj w.params u1 u2 u3 u4 u5 u6 (.str (kdStr k) ukd) vw (.int b tb) (.int e te) vl₀ (.bool done₀)), (x2, instObj 163 d2), (d2, skObj w.params v1 v2 v3 v4 v5 v6 (.str (kdStr k2) vkd) vw2 (.int b2 tb2) (.int e2 te2) vl2₀ (.bool done2₀)), (sl, listOf #[.ref x, .ref x2] n0)]
      (fun r led => ∃ fa vs n tl vl vd vl2 vd2, r = .ref fa ∧ PairsIn tl vs (fitsF os os.length 0 [⟨k, xs, b, e, lead₀, done₀⟩, ⟨k2, ys, b2, e2, lead2₀, done2₀⟩]) ∧ OwnOff tl [fa, x, d, x2, d2, sl] ∧ (@Ne Nat fa x ∧ @Ne Nat fa d ∧ @Ne Nat fa x2 ∧ @Ne Nat fa d2 ∧ @Ne Nat fa sl) ∧ led = (fa, listOf vs.toArray n) :: (x, instObj 163 d) :: (d, skObj w.params u1 u2 u3 u4 u5 u6 (.str (kdStr k) ukd) vw (.int b tb) (.int e te) vl vd) :: (x2, instObj 163 d2) :: (d2, skObj w.params v1 v2 v3 v4 v5 v6 (.str (kdStr k2) vkd) vw2 (.int b2 tb2) (.int e2 te2) vl2 vd2) :: (sl, listOf #[.ref x, .ref x2] n0) :: tl) :=
  @ofTag _ _ (by exact tag_triv : Tag (by
  k_with_none
  w_top off
  k_with "ne9" => (first | exact ne_Nat | exact ne_Heap | exact ne_Value | exact ne_Str | exact ne_Int | exact ne_Env | exact ne_Shared | exact ne_Around | exact ne_Program | exact ne_World | exact ne_List | exact ne_Option | exact ne_Arr | exact ne_Obj | exact ne_FuncData | exact ne_prod ne_Nat ne_Obj | exact ne_fun ne_Prop | exact ne_fun (ne_fun ne_Prop) | exact ne_fun ne_Option | exact ⟨Kd.chars⟩ | exact ⟨Opd.zero⟩ | (refine ⟨?_⟩; exact default) | (refine ⟨?_⟩; constructor <;> (first | exact default | exact Kd.chars | exact Opd.zero | exact tupOf #[] 0)))
  revert prog w p loose mean mg mb x d x2 d2 sl u1 u2 u3 u4 u5 u6 ukd tb te t1 v1 v2 v3 v4 v5 v6 vkd tb2 te2 n0 vw vl₀ vw2 vl2₀ done₀ done2₀ k k2 xs ys os o b e b2 e2 lead₀ lead2₀ hw hl hw2 hl2 ho lo hxd hxl hdl hxd2 hxl2 hdl2 hxx hxd3 hdx3 hdd3
  refine no_implicit_lambda% ((?F9 : @Tag ?T9 (?prf9 : ?T9) → ?T9) tag_triv)
  case prf9 =>
    intro prog w p loose mean mg mb x d x2 d2 sl u1 u2 u3 u4 u5 u6 ukd tb te t1 v1 v2 v3 v4 v5 v6 vkd tb2 te2 n0 vw vl₀ vw2 vl2₀ done₀ done2₀ k k2 xs ys os o b e b2 e2 lead₀ lead2₀ hw hl hw2 hl2 ho lo hxd hxl hdl hxd2 hxl2 hdl2 hxx hxd3 hdx3 hdd3
    k_with_none
    k_with "ne9" => (first | exact ne_Nat | exact ne_Heap | exact ne_Value | exact ne_Str | exact ne_Int | exact ne_Env | exact ne_Shared | exact ne_Around | exact ne_Program | exact ne_World | exact ne_List | exact ne_Option | exact ne_Arr | exact ne_Obj | exact ne_FuncData | exact ne_prod ne_Nat ne_Obj | exact ne_fun ne_Prop | exact ne_fun (ne_fun ne_Prop) | exact ne_fun ne_Option | exact ⟨Kd.chars⟩ | exact ⟨Opd.zero⟩ | (refine ⟨?_⟩; exact default) | (refine ⟨?_⟩; constructor <;> (first | exact default | exact Kd.chars | exact Opd.zero | exact tupOf #[] 0)))
    k_with "k_lt_skip" => skip
    k_with "k_all" => (first | (with_reducible assumption) | exact all_ne (by with_reducible assumption) (by intro q hq; k_ownIn))
    k_with "k_ne" => (first | exact ne_l (by with_reducible assumption) (by k_memK) | exact Ne.symm (ne_l (by with_reducible assumption) (by k_memK)) | exact ne_l1 (by with_reducible assumption) (by k_memK) | exact ne_l2 (by with_reducible assumption) (by k_memK) | exact ne_l3 (by with_reducible assumption) (by k_memK) | exact Ne.symm (ne_l1 (by with_reducible assumption) (by k_memK)) | exact Ne.symm (ne_l2 (by with_reducible assumption) (by k_memK)))
    k_with "room" => (first | exact rm0 (by with_reducible assumption) | exact rm1 (by with_reducible assumption) (by decide) | exact rm2 (by with_reducible assumption) (by decide) | exact rm3 (by with_reducible assumption) (by decide))
    k_with "units" => (first | exact rm0 (by with_reducible assumption) | exact rm1 (by with_reducible assumption) (by decide) | exact rm2 (by with_reducible assumption) (by decide) | exact rm3 (by with_reducible assumption) (by decide))
    k_with "ktu_obj" => (refine AllObj.cons ?_; intro o' hc'; (try dsimp only at hc'))
    k_with "ItemsRest" => (first | ((with_unfolding_all refine ItemsRest.val ?_); intro h' tk' F'; ktu_objs) | ((with_unfolding_all refine ItemsRest.pair ?_); intro T' t' h' tk' hT' F'; (try dsimp only at hT'); ktu_objs) | ((with_unfolding_all refine ItemsRest.tok ?_); intro t' h' tk' F'; (try dsimp only); ktu_objs) | ((with_unfolding_all refine ItemsRest.zero ?_); intro h' tk' F' N'))
    k_with "call ref" => (k_extra "my call")
    k_with "pyIter ref" => (k_extra "my loop")
    k_with "exec While Compare" => (k_dflt (k_extra "my while"))
    k_with "exec While BoolOp" => (k_dflt (k_extra "my while"))
    k_with "STEPC" => (refine wpAny_call ?_; k_dflt (refine' code_hereC ?k1 ?k2 ?k3 ?k4 ?k5 ?kA ?kF ?kK ?k6 ?k7 ?k8 ?k9 ?kB ?kD ?_ ?c2 ?c3 ?c4; (case kA => exact rfl); (case kF => assumption); (case kK => assumption); (case k1 => k_asm); (case k2 => k_asm); (case k3 => k_asm); (case k4 => k_asm); (case k5 => k_asm); (case k6 => k_is); (case k7 => k_is); (case k8 => ktr_room); (case k9 => exact BindsTo.of_eq rfl); (case kB => exact rfl); (case kD => decide +kernel); (case c2 => exact rfl); (case c3 => exact rfl); (case c4 => exact rfl); k_whole; intro g' L' h' tk' cells' S' FG' F' N' Y' B' X' T' l1; (try k_lt l1); k_cells Y'; (try simp only [List.cons_append, List.nil_append] at N'); (try dsimp only); (try k_lift B'); (try k_fold)))
    k_with "ite" => (k_closed; first | refine ite_pos (by decide +kernel) ?_ | refine ite_neg (by decide +kernel) ?_)
    k_with "RELR" => (
      (case B => k_asm); (case F => k_asm); (case X => k_asm); (case N => k_asm); (case T => k_asm); (case hf => exact rfl); (case hk => first | exact rfl | assumption); (case hd => ktr_room); (case hu => ktr_units);
      (case P => k_allIn);
      k_whole)
    k_with "subscriptTail Name Name ref int" => (k_here; walk_at "subscriptTail")
    k_with "callWith ref" => (k_here; k_dflt (first | (refine' callWith_K ?k1 ?k2 ?_; (case k1 => k_asm); (case k2 => k_is); k_whole) | (refine' callWith_K0 ?k1 ?k2 ?_; (case k1 => k_in); (case k2 => k_is); k_whole)))
    k_with "my call" => (
      (with_reducible show wpAny _ _ (call (Value.ref 146) (Value.ref x :: _)) _ _ _)
      k_dflt (refine' CallOk.use (reach_ok hlv hxd) ?B ?F ?X ?N ?T ?hf ?hk ?hd ?hu ?P ?ap ?_; ktr_rel)
      intro r' led' h' tk' F' N' b' ap' po'; obtain ⟨e1', vl', hlv', e2'⟩ := po'; subst e1' e2'; clear ap' b'; (try simp only [List.nil_append, List.cons_append] at N'); k_sweep; (try dsimp only))
    k_with "my call" => (
      (with_reducible show wpAny _ _ (call (Value.ref 153) (Value.ref x :: _)) _ _ _)
      k_dflt (refine' CallOk.use (is_fit_ok hw (by assumption) ho lo h0) ?B ?F ?X ?N ?T ?hf ?hk ?hd ?hu ?P ?ap ?_; ktr_rel)
      intro r' led' h' tk' F' N' b' ap' po'; obtain ⟨e1', e2'⟩ := po'; subst e1' e2'; clear ap' b'; (try simp only [List.nil_append, List.cons_append] at N'); k_sweep; (try dsimp only))
    k_with "my call" => (
      (with_reducible show wpAny _ _ (call (Value.ref 160) (Value.ref x :: _)) _ _ _)
      k_dflt (refine' CallOk.use (took_ok hw hxd) ?B ?F ?X ?N ?T ?hf ?hk ?hd ?hu ?P ?ap ?_; ktr_rel)
      intro r' led' h' tk' F' N' b' ap' po'; obtain ⟨e1', tt', e2'⟩ := po'; subst e1' e2'; clear ap' b'; (try simp only [List.nil_append, List.cons_append] at N'); k_sweep; (try dsimp only))
    k_with "my call" => (
      (with_reducible show wpAny _ _ (call (Value.ref 139) _) _ _ _)
      k_dflt (refine' CallOk.use (width_ok hw) ?B ?F ?X ?N ?T ?hf ?hk ?hd ?hu ?P ?ap ?_; ktr_rel)
      intro r' led' h' tk' F' N' b' ap' po'; obtain ⟨e1', tt', e2'⟩ := po'; subst e1' e2'; clear ap' b'; (try simp only [List.nil_append, List.cons_append] at N'); k_sweep; (try dsimp only))
    k_with "my call" => (
      (with_reducible show wpAny _ _ (call (Value.ref 146) (Value.ref x2 :: _)) _ _ _)
      k_dflt (refine' CallOk.use (reach_ok hlv2 hxd2) ?B ?F ?X ?N ?T ?hf ?hk ?hd ?hu ?P ?ap ?_; ktr_rel)
      intro r' led' h' tk' F' N' b' ap' po'; obtain ⟨e1', vl', hlv', e2'⟩ := po'; subst e1' e2'; clear ap' b'; (try simp only [List.nil_append, List.cons_append] at N'); k_sweep; (try dsimp only))
    k_with "my call" => (
      (with_reducible show wpAny _ _ (call (Value.ref 153) (Value.ref x2 :: _)) _ _ _)
      k_dflt (refine' CallOk.use (is_fit_ok hw2 (by assumption) ho lo h0) ?B ?F ?X ?N ?T ?hf ?hk ?hd ?hu ?P ?ap ?_; ktr_rel)
      intro r' led' h' tk' F' N' b' ap' po'; obtain ⟨e1', e2'⟩ := po'; subst e1' e2'; clear ap' b'; (try simp only [List.nil_append, List.cons_append] at N'); k_sweep; (try dsimp only))
    k_with "my call" => (
      (with_reducible show wpAny _ _ (call (Value.ref 160) (Value.ref x2 :: _)) _ _ _)
      k_dflt (refine' CallOk.use (took_ok hw2 hxd2) ?B ?F ?X ?N ?T ?hf ?hk ?hd ?hu ?P ?ap ?_; ktr_rel)
      intro r' led' h' tk' F' N' b' ap' po'; obtain ⟨e1', tt', e2'⟩ := po'; subst e1' e2'; clear ap' b'; (try simp only [List.nil_append, List.cons_append] at N'); k_sweep; (try dsimp only))
    k_with "my call" => (
      (with_reducible show wpAny _ _ (call (Value.ref 139) _) _ _ _)
      k_dflt (refine' CallOk.use (width_ok hw2) ?B ?F ?X ?N ?T ?hf ?hk ?hd ?hu ?P ?ap ?_; ktr_rel)
      intro r' led' h' tk' F' N' b' ap' po'; obtain ⟨e1', tt', e2'⟩ := po'; subst e1' e2'; clear ap' b'; (try simp only [List.nil_append, List.cons_append] at N'); k_sweep; (try dsimp only))
    k_with "my while" => (
      (rename Fr _ _ _ _ => lF'); (rename News _ _ _ _ => lN');
      (with_unfolding_all refine' ksw_while (σ := F2) (F2.led ?fa x d x2 d2 sl n0 (fun vl vd => skObj w.params u1 u2 u3 u4 u5 u6 (.str (kdStr k) ukd) vw (.int b tb) (.int e te) vl vd) (fun vl vd => skObj w.params v1 v2 v3 v4 v5 v6 (.str (kdStr k2) vkd) vw2 (.int b2 tb2) (.int e2 te2) vl vd)) (fun c => [(Str.ofString "at", Value.int c.i c.ti)]) (fun _ => True) [Str.ofString "taker", Str.ofString "number", Str.ofString "seeker"] (F2.P ?fa x d x2 d2 sl os k xs b e k2 ys b2 e2 (fitsF os os.length 0 [⟨k, xs, b, e, lead₀, done₀⟩, ⟨k2, ys, b2, e2, lead2₀, done2₀⟩])) (fun c => (os.length - c.i).toNat) ⟨[], _, [], [], 0, _, vl₀, lead₀, done₀, vl2₀, lead2₀, done2₀⟩ lF' (News.tail1 lN') True.intro ?hk ⟨Int.le_refl 0, Int.le_refl 0, fun _ h => (nomatch h), PairsIn.nil, hl, hl2, os.length, (by show (os.length : Int) - 0 ≤ (os.length : Int); omega), rfl⟩ ?turn);
      (case hk => (intro q hq; rcases List.mem_cons.mp hq with rfl | hq; k_dflt (exact rfl); cases hq));
      clear lF' lN';
      (intro zz8 u h tk zz7 zz9 F' N'; obtain ⟨vs, n, tl, fs, i, ti, vl, lead, done, vl2, lead2, done2⟩ := zz8; obtain ⟨h0, hlen, hoff, hpr, hlv, hlv2, fuel, hfu, hsum⟩ := zz9); (try dsimp only at h0 hlen hoff hpr hlv hlv2 hfu hsum N' F'); (try k_fold))
    k_with "call type:enumerate" => k_dflt (
      (rename Fr _ _ _ _ => lF'); (rename News _ _ _ _ => lN');
      (with_unfolding_all refine' ktu_enum (lo := listOf #[.ref x, .ref x2] n0) (vs := [.ref x, .ref x2]) (xs := [Itm.pair (fun t => Value.int 0 t) (.ref x), Itm.pair (fun t => Value.int 1 t) (.ref x2)]) (by rfl) lF' lN' (by k_mem) (by rfl) (by rfl) (by rfl) ?_);
      clear lF'; intro i' hI1; (have hI0 := hI1); (replace hI1 := allLt_of hI1; simp only [AllLt, and_true] at hI1))
    k_with "UnrEndW" => k_dflt (
      (rename News _ _ _ _ => nE');
      (refine unrEnd_tail [(_, listOf vs.toArray n), (x, instObj 163 d), (d, _), (x2, instObj 163 d2), (d2, _), (sl, listOf #[.ref x, .ref x2] n0)] tl (by assumption) nE' (by k_allIn) (by k_allIn) (by (intro p hp; k_ownIn)) (by ktu_offL) (tail_two hI1.2.2.2.2.2.2 (Nat.le_succ _) (Nat.le_refl _)) ?_);
      (refine ⟨by k_subL, ?_⟩);
      (simp only [List.cons_append, List.nil_append]))
    intro dp un gd env outer A₀ base h₀ L m s Q E B F X N T hfr hk hd hu hret
    cell_step
    k_steps
    · have hwp := width_pos hw
      obtain ⟨f', hf1, hf2⟩ := step2_fst (by assumption) hfu hsum (by assumption) hwp.1
      have hlt' : i < (os.length : Int) := by assumption
      rename News _ _ _ _ => nE'
      try simp only [List.push_toArray] at nE'
      refine ksw_end ⟨vs ++ [.ref ?aaD], ?aan, (?aaD, tupOf #[.int i ?aat, .int ((0 : Nat) : Int) ?aau] ?aac) :: tl, fs ++ [(i, 0)], i + width k xs, ?aai, .int (i + width k xs) ?aal, some (i + width k xs), decide (k = .first), ?aav, reachL b2 e2 lead2 i, done2⟩ (by with_reducible assumption) nE' ?aahn True.intro ?aahk ?aahr ⟨?aap1, ?aap2, ?aap3, hpr.snoc, LV.some, ?aaq, f', hf1, hf2⟩ ?aahm
      case aahn =>
        dsimp only [F2.led]
        repeat (refine List.forall_mem_cons.mpr ?_; refine And.intro (by k_memK) ?_)
        intro p hp; k_ownIn
      case aahk => intro q hq; rcases List.mem_cons.mp hq with rfl | hq; exact rfl; cases hq
      case aaq => assumption
      case aahr =>
        intro z h2 h3
        have h2' := h2 _ (List.Mem.head _)
        dsimp only at h2'
        simp only [List.contains_cons, List.contains_nil, Bool.or_false, Bool.or_eq_false_iff, beq_eq_false_iff_ne, ne_eq] at h3
        simp [kstB, h2', h3]
      case aap1 => show (0 : Int) ≤ i + width k xs; omega
      case aap2 => show ((vs ++ [_]).length : Int) ≤ i + width k xs; rw [List.length_append]; simp only [List.length_cons, List.length_nil]; omega
      case aap3 => exact OwnOff.cons hoff (by repeat' (first | exact List.forall_mem_nil _ | refine List.forall_mem_cons.mpr ?_; refine And.intro (by k_ne) ?_))
      case aahm => show (os.length - (i + width k xs)).toNat < (os.length - i).toNat; omega
    · have hwp := width_pos hw2
      obtain ⟨f', hf1, hf2⟩ := step2_snd (by assumption) hfu hsum (by assumption) (by assumption) hwp.1
      have hlt' : i < (os.length : Int) := by assumption
      rename News _ _ _ _ => nE'
      try simp only [List.push_toArray] at nE'
      refine ksw_end ⟨vs ++ [.ref ?bbD], ?bbn, (?bbD, tupOf #[.int i ?bbt, .int ((1 : Nat) : Int) ?bbu] ?bbc) :: tl, fs ++ [(i, 1)], i + width k2 ys, ?bbi, ?bbv, reachL b e lead i, done, .int (i + width k2 ys) ?bbl, some (i + width k2 ys), decide (k2 = .first)⟩ (by with_reducible assumption) nE' ?bbhn True.intro ?bbhk ?bbhr ⟨?bbp1, ?bbp2, ?bbp3, hpr.snoc, ?bbq, LV.some, f', hf1, hf2⟩ ?bbhm
      case bbhn =>
        dsimp only [F2.led]
        repeat (refine List.forall_mem_cons.mpr ?_; refine And.intro (by k_memK) ?_)
        intro p hp; k_ownIn
      case bbhk => intro q hq; rcases List.mem_cons.mp hq with rfl | hq; exact rfl; cases hq
      case bbq => assumption
      case bbhr =>
        intro z h2 h3
        have h2' := h2 _ (List.Mem.head _)
        dsimp only at h2'
        simp only [List.contains_cons, List.contains_nil, Bool.or_false, Bool.or_eq_false_iff, beq_eq_false_iff_ne, ne_eq] at h3
        simp [kstB, h2', h3]
      case bbp1 => show (0 : Int) ≤ i + width k2 ys; omega
      case bbp2 => show ((vs ++ [_]).length : Int) ≤ i + width k2 ys; rw [List.length_append]; simp only [List.length_cons, List.length_nil]; omega
      case bbp3 => exact OwnOff.cons hoff (by repeat' (first | exact List.forall_mem_nil _ | refine List.forall_mem_cons.mpr ?_; refine And.intro (by k_ne) ?_))
      case bbhm => show (os.length - (i + width k2 ys)).toNat < (os.length - i).toNat; omega
    · obtain ⟨f', hf1, hf2⟩ := step2_none (by assumption) hfu hsum (by assumption) (by assumption)
      have hlt' : i < (os.length : Int) := by assumption
      rename News _ _ _ _ => nE'
      refine ksw_end ⟨vs, n, tl, fs, i + 1, ?zi, ?zv, reachL b e lead i, done, ?zw, reachL b2 e2 lead2 i, done2⟩ (by with_reducible assumption) nE' ?zhn True.intro ?zhk ?zhr ⟨?zp1, ?zp2, hoff, hpr, ?zq, ?zq2, f', hf1, hf2⟩ ?zhm
      case zhn =>
        dsimp only [F2.led]
        repeat (refine List.forall_mem_cons.mpr ?_; refine And.intro (by k_memK) ?_)
        intro p hp; k_ownIn
      case zhk => intro q hq; rcases List.mem_cons.mp hq with rfl | hq; exact rfl; cases hq
      case zq => assumption
      case zq2 => assumption
      case zhr =>
        intro z h2 h3
        have h2' := h2 _ (List.Mem.head _)
        dsimp only at h2'
        simp only [List.contains_cons, List.contains_nil, Bool.or_false, Bool.or_eq_false_iff, beq_eq_false_iff_ne, ne_eq] at h3
        simp [kstB, h2', h3]
      case zp1 => show (0 : Int) ≤ i + 1; omega
      case zp2 => show (vs.length : Int) ≤ i + 1; omega
      case zhm => show (os.length - (i + 1)).toNat < (os.length - i).toNat; omega
    · have hfs := fits_end (by assumption) hsum
      refine hret _ _ _ _ (by k_asm) (by assumption) (Stays.back (by assumption) (by assumption) (by assumption)) ⟨_, _, _, _, _, _, _, _, rfl, hfs ▸ hpr, hoff, ⟨by k_ne, by k_ne, by k_ne, by k_ne, by k_ne⟩, rfl⟩
  case F9 =>
    intros h9
    k_with_none
    conv at h9 => skip
    conv at h9 => zeta
    exact @ofTag _ _ (tag_triv : type_of% h9)))
end
end SFits2o
section SReplIn
section
variable {prog : Program} {w : World} {p : Program} {loose : List Str} {mean : ExcName → Option Value} {mg mb : Str → Option Value}
set_option maxRecDepth 100000 in
set_option maxHeartbeats 8000000 in
theorem replaced_in1_ok {ra r1 : Addr} {n0 c1 : Nat} {o y : Array UInt8} {os ys xs : Oct} {k : Kd} {t1 t2 t3 : Tok} {vw vb va : Value} {before after : Option Oct} (ho : KBw.bInts o = os) (lo : os.length ≤ 64) (hw : WV k xs vw) (hy : KBw.bInts y = ys) (hyl : (ys.length : Int) = width k xs) (hb : OV before vb) (ha : OV after va) :
    CallOk prog w p loose mean mg mb 6 200 (.ref 186) [.bytes o t1, .ref ra] [(ra, listOf #[.ref r1] n0), (r1, tupOf #[.str (kdStr k) t2, vw, .bytes y t3, vb, va] c1)]
      (fun r led => led = [(ra, listOf #[.ref r1] n0), (r1, tupOf #[.str (kdStr k) t2, vw, .bytes y t3, vb, va] c1)] ∧ ∃ z t, r = .bytes z t ∧ KBw.bInts z = foldP (fun _ => ys) (fun _ => width k xs) os (fitsF os os.length 0 [⟨k, xs, beginOf os after, endOf os before, none, false⟩])) :=
  @ofTag _ _ (by exact tag_triv : Tag (by
  k_with_none
  w_top off
  k_with "ne9" => (first | exact ne_Nat | exact ne_Heap | exact ne_Value | exact ne_Str | exact ne_Int | exact ne_Env | exact ne_Shared | exact ne_Around | exact ne_Program | exact ne_World | exact ne_List | exact ne_Option | exact ne_Arr | exact ne_Obj | exact ne_FuncData | exact ne_prod ne_Nat ne_Obj | exact ne_fun ne_Prop | exact ne_fun (ne_fun ne_Prop) | exact ne_fun ne_Option | exact ⟨Kd.chars⟩ | exact ⟨Opd.zero⟩ | (refine ⟨?_⟩; exact default) | (refine ⟨?_⟩; constructor <;> (first | exact default | exact Kd.chars | exact Opd.zero | exact tupOf #[] 0)))
  revert prog w p loose mean mg mb ra r1 n0 c1 o y os ys xs k t1 t2 t3 vw vb va before after ho lo hw hy hyl hb ha
  refine no_implicit_lambda% ((?F9 : @Tag ?T9 (?prf9 : ?T9) → ?T9) tag_triv)
  case prf9 =>
    intro prog w p loose mean mg mb ra r1 n0 c1 o y os ys xs k t1 t2 t3 vw vb va before after ho lo hw hy hyl hb ha
    have hyb : ys.length ≤ 64 := by have := (width_pos hw).2; omega
    k_with_none
    k_with "ne9" => (first | exact ne_Nat | exact ne_Heap | exact ne_Value | exact ne_Str | exact ne_Int | exact ne_Env | exact ne_Shared | exact ne_Around | exact ne_Program | exact ne_World | exact ne_List | exact ne_Option | exact ne_Arr | exact ne_Obj | exact ne_FuncData | exact ne_prod ne_Nat ne_Obj | exact ne_fun ne_Prop | exact ne_fun (ne_fun ne_Prop) | exact ne_fun ne_Option | exact ⟨Kd.chars⟩ | exact ⟨Opd.zero⟩ | (refine ⟨?_⟩; exact default) | (refine ⟨?_⟩; constructor <;> (first | exact default | exact Kd.chars | exact Opd.zero | exact tupOf #[] 0)))
    k_with "k_lt_skip" => skip
    k_with "k_all" => (first | (with_reducible assumption) | exact all_ne (by with_reducible assumption) (by intro q hq; k_ownIn))
    k_with "k_ne" => (first | exact ne_l (by with_reducible assumption) (by k_memK) | exact Ne.symm (ne_l (by with_reducible assumption) (by k_memK)) | exact ne_l1 (by with_reducible assumption) (by k_memK) | exact ne_l2 (by with_reducible assumption) (by k_memK) | exact ne_l3 (by with_reducible assumption) (by k_memK) | exact Ne.symm (ne_l1 (by with_reducible assumption) (by k_memK)) | exact Ne.symm (ne_l2 (by with_reducible assumption) (by k_memK)))
    k_with "room" => (first | exact rm0 (by with_reducible assumption) | exact rm1 (by with_reducible assumption) (by decide) | exact rm2 (by with_reducible assumption) (by decide) | exact rm3 (by with_reducible assumption) (by decide))
    k_with "units" => (first | exact rm0 (by with_reducible assumption) | exact rm1 (by with_reducible assumption) (by decide) | exact rm2 (by with_reducible assumption) (by decide) | exact rm3 (by with_reducible assumption) (by decide))
    k_with "ktu_obj" => (refine AllObj.cons ?_; intro o' hc'; (try dsimp only at hc'))
    k_with "ItemsRest" => (first | ((with_unfolding_all refine ItemsRest.val ?_); intro h' tk' F'; ktu_objs) | ((with_unfolding_all refine ItemsRest.pair ?_); intro T' t' h' tk' hT' F'; (try dsimp only at hT'); ktu_objs) | ((with_unfolding_all refine ItemsRest.tok ?_); intro t' h' tk' F'; (try dsimp only); ktu_objs) | ((with_unfolding_all refine ItemsRest.zero ?_); intro h' tk' F' N'))
    k_with "call ref" => (k_extra "my call")
    k_with "pyIter ref" => (k_extra "my loop")
    k_with "exec While Compare" => (k_dflt (k_extra "my while"))
    k_with "exec While BoolOp" => (k_dflt (k_extra "my while"))
    k_with "STEPC" => (refine wpAny_call ?_; k_dflt (refine' code_hereC ?k1 ?k2 ?k3 ?k4 ?k5 ?kA ?kF ?kK ?k6 ?k7 ?k8 ?k9 ?kB ?kD ?_ ?c2 ?c3 ?c4; (case kA => exact rfl); (case kF => assumption); (case kK => assumption); (case k1 => k_asm); (case k2 => k_asm); (case k3 => k_asm); (case k4 => k_asm); (case k5 => k_asm); (case k6 => k_is); (case k7 => k_is); (case k8 => ktr_room); (case k9 => exact BindsTo.of_eq rfl); (case kB => exact rfl); (case kD => decide +kernel); (case c2 => exact rfl); (case c3 => exact rfl); (case c4 => exact rfl); k_whole; intro g' L' h' tk' cells' S' FG' F' N' Y' B' X' T' l1; (try k_lt l1); k_cells Y'; (try simp only [List.cons_append, List.nil_append] at N'); (try dsimp only); (try k_lift B'); (try k_fold)))
    k_with "ite" => (k_closed; first | refine ite_pos (by decide +kernel) ?_ | refine ite_neg (by decide +kernel) ?_)
    k_with "RELR" => (
      (case B => k_asm); (case F => k_asm); (case X => k_asm); (case N => k_asm); (case T => k_asm); (case hf => exact rfl); (case hk => first | exact rfl | assumption); (case hd => ktr_room); (case hu => ktr_units);
      (case P => k_allIn);
      k_whole)
    k_with "subscriptTail Name Name ref int" => (k_here; walk_at "subscriptTail")
    k_with "k_mem" => (assumption)
    k_with "exec For Tuple Call" => (k_here; (rename Fr _ _ _ _ => lF'); (with_unfolding_all refine' For_turns lF' ?_; k_whole))
    k_with "ite" => (refine ite_neg (by simp only [bne_iff_ne, ne_eq, Decidable.not_not]; assumption) ?_)
    k_with "exec Assign cons ListComp" => (k_here; k_dflt (refine Assign_N (l := [(Str.ofString "kind", _), (Str.ofString "wanted", _), (Str.ofString "by", _), (Str.ofString "before", _), (Str.ofString "after", _)]) (by k_asm) (by rfl) (by with_unfolding_all rfl) (by with_unfolding_all rfl) (by decide) (by rfl) (by decide) (by decide) (by decide) (by rfl) (by rfl) ?_))
    k_with "SrcN" => (k_here; k_dflt (first | refine ⟨_, [_], _, _, rfl, by rfl, by k_asm, by k_asm, by k_mem, Nat.le_of_ble_eq_true rfl, ?_⟩ | refine ⟨_, [_, _], _, _, rfl, by rfl, by k_asm, by k_asm, by k_mem, Nat.le_of_ble_eq_true rfl, ?_⟩); intro g')
    k_with "RestN" => (with_unfolding_all first
      | (refine RestN.five (by k_mem) ?_; intro I' oI' C' oC' D' m' h' tk' E' hC' hx1' hx2' hx3' hx4' hx5' F' N' off' ne'; (dsimp only [List.map] at hx1' hx2' hx3' hx4' hx5'); simp only [LCg.Off3, and_true] at off'; (repeat (obtain ⟨⟨_, _, _⟩, off'⟩ := off')); (obtain ⟨_, _, _⟩ := off'); obtain ⟨_, _, _⟩ := ne')
      | refine RestN.nil ?_)
    k_with "my call" => (
      (with_reducible show wpAny _ _ (call (Value.ref 174) _) _ _ _)
      k_dflt (refine' CallOk.use (seeker_of_ok ho lo hw hb ha) ?B ?F ?X ?N ?T ?hf ?hk ?hd ?hu ?P ?ap ?_; ktr_rel)
      intro r' led' h' tk' F' N' b' ap' po'; obtain ⟨x', d', u1', u2', u3', u4', u5', u6', ukd', tb', te', hxd', e1', e2'⟩ := po'; subst e1' e2'; (replace ap' := apartN_of ap'; simp only [ApartN, OffN, and_true, true_and] at ap'; (repeat (obtain ⟨⟨_, _⟩, ap'⟩ := ap')); obtain ⟨_, _⟩ := ap'); clear b'; (try simp only [List.nil_append, List.cons_append] at N'); k_sweep; (try dsimp only))
    k_with "my call" => (
      (with_reducible show wpAny _ _ (call (Value.ref 139) _) _ _ _)
      k_dflt (refine' CallOk.use (width_ok hw) ?B ?F ?X ?N ?T ?hf ?hk ?hd ?hu ?P ?ap ?_; ktr_rel)
      intro r' led' h' tk' F' N' b' ap' po'; obtain ⟨e1', tt', e2'⟩ := po'; subst e1' e2'; clear ap' b'; (try simp only [List.nil_append, List.cons_append] at N'); k_sweep; (try dsimp only))
    k_with "my call" => (
      (with_reducible show wpAny _ _ (call (Value.ref 181) _) _ _ _)
      (rename (@Ne Nat _ _ ∧ _) => o9'); obtain ⟨_, _, _, _, _⟩ := o9'
      k_dflt (refine' CallOk.use (fits_in1_ok hw LV.none ho lo hxd' (by k_ne) (by k_ne)) ?B ?F ?X ?N ?T ?hf ?hk ?hd ?hu ?P ?ap ?_; ktr_rel)
      intro r' led' h' tk' F' N' b' ap' po'; obtain ⟨fa', vs', n', tl', vl', vd', e1', hpr', hoff', ⟨_, _, _⟩, e2'⟩ := po'; subst e1' e2'; (replace ap' := apartN_of ap'; simp only [ApartN, OffN, and_true, true_and] at ap'; obtain ⟨⟨_, _, _, _, hoC'⟩, ⟨_, _, _, _, hoA'⟩, ⟨_, _, _, _, hoR'⟩⟩ := ap'); clear b'; (try simp only [List.nil_append, List.cons_append] at N'); (replace N' := News.mid4 N'); (try simp only [List.nil_append, List.cons_append] at N'); (have hoffT := ownOff_cons hoC' (ownOff_cons hoA' (ownOff_cons hoR' hoff'))); k_sweep; (try dsimp only))
    k_with "pyIter ref" => k_dflt (
      (rename Fr _ _ _ _ => lF'); (rename News _ _ _ _ => lN');
      (with_unfolding_all refine' turns_listS (vs := vs') (nn := n') [Str.ofString "at", Str.ofString "number"] (JR ?cl ((fa', listOf vs'.toArray n') :: (x', instObj 163 d') :: (d', ?od) :: (?sl, listOf #[.ref x'] ?ns) :: (ra, listOf #[.ref r1] n0) :: (r1, tupOf #[.str (kdStr k) t2, vw, .bytes y t3, vb, va] c1) :: tl') (fun i => foldP (fun _ => ys) (fun _ => width k xs) os ((fitsF os os.length 0 [⟨k, xs, beginOf os after, endOf os before, none, false⟩]).take i))) (by rfl) lF' lN' ?sub ?jm ⟨?oc, o, t1, rfl, ?hoc, ho⟩ ?turn ?done);
      (case hoc => assumption);
      (case sub => (repeat (refine List.forall_mem_cons.mpr ?_; refine And.intro (by k_memK) ?_)); (intro q hq; k_ownIn));
      (case jm => (rintro i nx ⟨oc, z, tz, rfl, _, _⟩; exact List.Mem.tail _ (List.Mem.head _)));
      (all_goals (clear lF' lN'));
      (case' turn => (intro i v nx I oI u h tk hv zz9 hI F' N'; obtain ⟨oc, z, tz, rfl, hoc, hz⟩ := zz9; (replace hI := offN_of hI); (simp only [OffN] at hI); (obtain ⟨_, _, _, _, _, _, _, hIT⟩ := hI); (obtain ⟨a, j, n, c, ta, tb, rfl, hmem, hfs⟩ := hpr'.at hv); (obtain ⟨hj0, hj1, hj2⟩ := mem1 (width_pos hw).1 (end_le os before) _ (List.mem_of_getElem? hfs)); (dsimp only at hj0 hj1 hj2 hz); (subst hj1); (have hzl := len1 (b := beginOf os after) (width_pos hw).1 (end_le os before) hyl i); (generalize hzs : foldP (fun _ => ys) (fun _ => width k xs) os _ = zs at hz hzl); (replace hmem : (a, tupOf #[Value.int j ta, Value.int 0 tb] c) ∈ tl' := hmem); (try k_fold)));
      (case' done => (intro nx u h tk zz9 F' N'; obtain ⟨oc, z, tz, rfl, hoc, hz⟩ := zz9; (try dsimp only))))
    k_with "PPost" => (dsimp only [PPost])
    intro dp un gd env outer A₀ base h₀ L m s Q E B F X N T hfr hk hd hu hret
    walk_at "STEPC"
    k_steps
    · have e := hpr'.length
      dsimp only at hz
      rw [e, List.take_length] at hz
      exact hret _ [(ra, listOf #[.ref r1] n0), (r1, tupOf #[.str (kdStr k) t2, vw, .bytes y t3, vb, va] c1)] _ _ (by k_asm) (News.sub (by assumption) (by k_allIn)) (Back.sub (Stays.back (by assumption) (by assumption) (by assumption)) (by k_allIn)) ⟨rfl, z, tz, rfl, hz⟩
    · have hwp := width_pos hw
      refine ⟨_, _, _, _, rfl, by assumption, News.sub (by assumption) ?es, ?eo, ⟨_, _, _, rfl, by assumption, ?ez⟩, ?er⟩
      case es =>
        repeat (refine List.forall_mem_cons.mpr ?_; refine And.intro (by k_memK) ?_)
        intro q hq; k_ownIn
      case eo => exact offN_to ⟨by k_ne, by k_ne, by k_ne, by k_ne, by k_ne, by k_ne, by k_ne, hIT⟩
      case ez =>
        refine Eq.trans (by assumption) ((cut_put hj0 (by omega) (by rw [hzl]; exact hj2)).trans ?_)
        show putL zs j ys (width k xs) = foldP (fun _ => ys) (fun _ => width k xs) os ((fitsF os os.length 0 [⟨k, xs, beginOf os after, endOf os before, none, false⟩]).take (i + 1))
        rw [foldP_step hfs, hzs]
      case er =>
        intro q h3
        simp only [List.contains_cons, List.contains_nil, Bool.or_false, Bool.or_eq_false_iff, beq_eq_false_iff_ne, ne_eq] at h3
        simp [h3]
  case F9 =>
    intros h9
    k_with_none
    conv at h9 => skip
    conv at h9 => zeta
    exact @ofTag _ _ (tag_triv : type_of% h9)))
end
end SReplIn
section SReplIn2
section
variable {prog : Program} {w : World} {p : Program} {loose : List Str} {mean : ExcName → Option Value} {mg mb : Str → Option Value}
set_option maxRecDepth 100000 in
set_option maxHeartbeats 8000000 in
theorem replaced_in2_ok {ra r1 r2 : Addr} {n0 c1 c2 : Nat} {o y y2 : Array UInt8} {os ys xs ys2 xs2 : Oct} {k k2 : Kd} {t1 t2 t3 s2 s3 : Tok} {vw vb va vw2 vb2 va2 : Value} {before after before2 after2 : Option Oct} (ho : KBw.bInts o = os) (lo : os.length ≤ 64)
    (hw : WV k xs vw) (hy : KBw.bInts y = ys) (hyl : (ys.length : Int) = width k xs) (hb : OV before vb) (ha : OV after va)
    (hw2 : WV k2 xs2 vw2) (hy2 : KBw.bInts y2 = ys2) (hyl2 : (ys2.length : Int) = width k2 xs2) (hb2 : OV before2 vb2) (ha2 : OV after2 va2) :
    CallOk prog w p loose mean mg mb 6 200 (.ref 186) [.bytes o t1, .ref ra] [(ra, listOf #[.ref r1, .ref r2] n0), (r1, tupOf #[.str (kdStr k) t2, vw, .bytes y t3, vb, va] c1), (r2, tupOf #[.str (kdStr k2) s2, vw2, .bytes y2 s3, vb2, va2] c2)]
      (fun r led => led = [(ra, listOf #[.ref r1, .ref r2] n0), (r1, tupOf #[.str (kdStr k) t2, vw, .bytes y t3, vb, va] c1), (r2, tupOf #[.str (kdStr k2) s2, vw2, .bytes y2 s3, vb2, va2] c2)] ∧ ∃ z t, r = .bytes z t ∧ KBw.bInts z = foldP (two ys ys2) (two (width k xs) (width k2 xs2)) os (fitsF os os.length 0 [⟨k, xs, beginOf os after, endOf os before, none, false⟩, ⟨k2, xs2, beginOf os after2, endOf os before2, none, false⟩])) :=
  @ofTag _ _ (by exact tag_triv : Tag (by
  k_with_none
  w_top off
  k_with "ne9" => (first | exact ne_Nat | exact ne_Heap | exact ne_Value | exact ne_Str | exact ne_Int | exact ne_Env | exact ne_Shared | exact ne_Around | exact ne_Program | exact ne_World | exact ne_List | exact ne_Option | exact ne_Arr | exact ne_Obj | exact ne_FuncData | exact ne_prod ne_Nat ne_Obj | exact ne_fun ne_Prop | exact ne_fun (ne_fun ne_Prop) | exact ne_fun ne_Option | exact ⟨Kd.chars⟩ | exact ⟨Opd.zero⟩ | (refine ⟨?_⟩; exact default) | (refine ⟨?_⟩; constructor <;> (first | exact default | exact Kd.chars | exact Opd.zero | exact tupOf #[] 0)))
  revert prog w p loose mean mg mb ra r1 r2 n0 c1 c2 o y y2 os ys xs ys2 xs2 k k2 t1 t2 t3 s2 s3 vw vb va vw2 vb2 va2 before after before2 after2 ho lo hw hy hyl hb ha hw2 hy2 hyl2 hb2 ha2
  refine no_implicit_lambda% ((?F9 : @Tag ?T9 (?prf9 : ?T9) → ?T9) tag_triv)
  case prf9 =>
    intro prog w p loose mean mg mb ra r1 r2 n0 c1 c2 o y y2 os ys xs ys2 xs2 k k2 t1 t2 t3 s2 s3 vw vb va vw2 vb2 va2 before after before2 after2 ho lo hw hy hyl hb ha hw2 hy2 hyl2 hb2 ha2
    have hyb : ys.length ≤ 64 := by have := (width_pos hw).2; omega
    have hyb2 : ys2.length ≤ 64 := by have := (width_pos hw2).2; omega
    k_with_none
    k_with "ne9" => (first | exact ne_Nat | exact ne_Heap | exact ne_Value | exact ne_Str | exact ne_Int | exact ne_Env | exact ne_Shared | exact ne_Around | exact ne_Program | exact ne_World | exact ne_List | exact ne_Option | exact ne_Arr | exact ne_Obj | exact ne_FuncData | exact ne_prod ne_Nat ne_Obj | exact ne_fun ne_Prop | exact ne_fun (ne_fun ne_Prop) | exact ne_fun ne_Option | exact ⟨Kd.chars⟩ | exact ⟨Opd.zero⟩ | (refine ⟨?_⟩; exact default) | (refine ⟨?_⟩; constructor <;> (first | exact default | exact Kd.chars | exact Opd.zero | exact tupOf #[] 0)))
    k_with "k_lt_skip" => skip
    k_with "k_all" => (first | (with_reducible assumption) | exact all_ne (by with_reducible assumption) (by intro q hq; k_ownIn))
    k_with "k_ne" => (first | exact ne_l (by with_reducible assumption) (by k_memK) | exact Ne.symm (ne_l (by with_reducible assumption) (by k_memK)) | exact ne_l1 (by with_reducible assumption) (by k_memK) | exact ne_l2 (by with_reducible assumption) (by k_memK) | exact ne_l3 (by with_reducible assumption) (by k_memK) | exact Ne.symm (ne_l1 (by with_reducible assumption) (by k_memK)) | exact Ne.symm (ne_l2 (by with_reducible assumption) (by k_memK)))
    k_with "room" => (first | exact rm0 (by with_reducible assumption) | exact rm1 (by with_reducible assumption) (by decide) | exact rm2 (by with_reducible assumption) (by decide) | exact rm3 (by with_reducible assumption) (by decide))
    k_with "units" => (first | exact rm0 (by with_reducible assumption) | exact rm1 (by with_reducible assumption) (by decide) | exact rm2 (by with_reducible assumption) (by decide) | exact rm3 (by with_reducible assumption) (by decide))
    k_with "ktu_obj" => (refine AllObj.cons ?_; intro o' hc'; (try dsimp only at hc'))
    k_with "ItemsRest" => (first | ((with_unfolding_all refine ItemsRest.val ?_); intro h' tk' F'; ktu_objs) | ((with_unfolding_all refine ItemsRest.pair ?_); intro T' t' h' tk' hT' F'; (try dsimp only at hT'); ktu_objs) | ((with_unfolding_all refine ItemsRest.tok ?_); intro t' h' tk' F'; (try dsimp only); ktu_objs) | ((with_unfolding_all refine ItemsRest.zero ?_); intro h' tk' F' N'))
    k_with "call ref" => (k_extra "my call")
    k_with "pyIter ref" => (k_extra "my loop")
    k_with "exec While Compare" => (k_dflt (k_extra "my while"))
    k_with "exec While BoolOp" => (k_dflt (k_extra "my while"))
    k_with "STEPC" => (refine wpAny_call ?_; k_dflt (refine' code_hereC ?k1 ?k2 ?k3 ?k4 ?k5 ?kA ?kF ?kK ?k6 ?k7 ?k8 ?k9 ?kB ?kD ?_ ?c2 ?c3 ?c4; (case kA => exact rfl); (case kF => assumption); (case kK => assumption); (case k1 => k_asm); (case k2 => k_asm); (case k3 => k_asm); (case k4 => k_asm); (case k5 => k_asm); (case k6 => k_is); (case k7 => k_is); (case k8 => ktr_room); (case k9 => exact BindsTo.of_eq rfl); (case kB => exact rfl); (case kD => decide +kernel); (case c2 => exact rfl); (case c3 => exact rfl); (case c4 => exact rfl); k_whole; intro g' L' h' tk' cells' S' FG' F' N' Y' B' X' T' l1; (try k_lt l1); k_cells Y'; (try simp only [List.cons_append, List.nil_append] at N'); (try dsimp only); (try k_lift B'); (try k_fold)))
    k_with "ite" => (k_closed; first | refine ite_pos (by decide +kernel) ?_ | refine ite_neg (by decide +kernel) ?_)
    k_with "RELR" => (
      (case B => k_asm); (case F => k_asm); (case X => k_asm); (case N => k_asm); (case T => k_asm); (case hf => exact rfl); (case hk => first | exact rfl | assumption); (case hd => ktr_room); (case hu => ktr_units);
      (case P => k_allIn);
      k_whole)
    k_with "subscriptTail Name Name ref int" => (k_here; walk_at "subscriptTail")
    k_with "k_mem" => (assumption)
    k_with "exec For Tuple Call" => (k_here; (rename Fr _ _ _ _ => lF'); (with_unfolding_all refine' For_turns lF' ?_; k_whole))
    k_with "ite" => (refine ite_neg (by simp only [bne_iff_ne, ne_eq, Decidable.not_not]; assumption) ?_)
    k_with "exec Assign cons ListComp" => (k_here; k_dflt (refine Assign_N (l := [(Str.ofString "kind", _), (Str.ofString "wanted", _), (Str.ofString "by", _), (Str.ofString "before", _), (Str.ofString "after", _)]) (by k_asm) (by rfl) (by with_unfolding_all rfl) (by with_unfolding_all rfl) (by decide) (by rfl) (by decide) (by decide) (by decide) (by rfl) (by rfl) ?_))
    k_with "SrcN" => (k_here; k_dflt (first | refine ⟨_, [_], _, _, rfl, by rfl, by k_asm, by k_asm, by k_mem, Nat.le_of_ble_eq_true rfl, ?_⟩ | refine ⟨_, [_, _], _, _, rfl, by rfl, by k_asm, by k_asm, by k_mem, Nat.le_of_ble_eq_true rfl, ?_⟩); intro g')
    k_with "RestN" => (with_unfolding_all first
      | (refine RestN.five (by k_mem) ?_; intro I' oI' C' oC' D' m' h' tk' E' hC' hx1' hx2' hx3' hx4' hx5' F' N' off' ne'; (dsimp only [List.map] at hx1' hx2' hx3' hx4' hx5'); simp only [LCg.Off3, and_true] at off'; (repeat (obtain ⟨⟨_, _, _⟩, off'⟩ := off')); (obtain ⟨_, _, _⟩ := off'); obtain ⟨_, _, _⟩ := ne')
      | refine RestN.nil ?_)
    k_with "my call" => (
      (with_reducible show wpAny _ _ (call (Value.ref 174) _) _ _ _)
      k_dflt (refine' CallOk.use (seeker_of_ok ho lo hw hb ha) ?B ?F ?X ?N ?T ?hf ?hk ?hd ?hu ?P ?ap ?_; ktr_rel)
      intro r' led' h' tk' F' N' b' ap' po'; obtain ⟨xa', da', u1', u2', u3', u4', u5', u6', ukd', tb', te', hxd', e1', e2'⟩ := po'; subst e1' e2'; (replace ap' := apartN_of ap'; simp only [ApartN, OffN, and_true, true_and] at ap'; (repeat (obtain ⟨⟨_, _⟩, ap'⟩ := ap')); obtain ⟨_, _⟩ := ap'); clear b'; (try simp only [List.nil_append, List.cons_append] at N'); k_sweep; (try dsimp only))
    k_with "my call" => (
      (with_reducible show wpAny _ _ (call (Value.ref 174) _) _ _ _)
      k_dflt (refine' CallOk.use (seeker_of_ok ho lo hw2 hb2 ha2) ?B ?F ?X ?N ?T ?hf ?hk ?hd ?hu ?P ?ap ?_; ktr_rel)
      intro r' led' h' tk' F' N' b' ap' po'; obtain ⟨xb', db', u1', u2', u3', u4', u5', u6', ukd', tb', te', hxd', e1', e2'⟩ := po'; subst e1' e2'; (replace ap' := apartN_of ap'; simp only [ApartN, OffN, and_true, true_and] at ap'; (repeat (obtain ⟨⟨_, _⟩, ap'⟩ := ap')); obtain ⟨_, _⟩ := ap'); clear b'; (try simp only [List.nil_append, List.cons_append] at N'); k_sweep; (try dsimp only))
    k_with "my call" => (
      (with_reducible show wpAny _ _ (call (Value.ref 139) _) _ _ _)
      k_dflt (refine' CallOk.use (width_ok hw) ?B ?F ?X ?N ?T ?hf ?hk ?hd ?hu ?P ?ap ?_; ktr_rel)
      intro r' led' h' tk' F' N' b' ap' po'; obtain ⟨e1', tt', e2'⟩ := po'; subst e1' e2'; clear ap' b'; (try simp only [List.nil_append, List.cons_append] at N'); k_sweep; (try dsimp only))
    k_with "my call" => (
      (with_reducible show wpAny _ _ (call (Value.ref 139) _) _ _ _)
      k_dflt (refine' CallOk.use (width_ok hw2) ?B ?F ?X ?N ?T ?hf ?hk ?hd ?hu ?P ?ap ?_; ktr_rel)
      intro r' led' h' tk' F' N' b' ap' po'; obtain ⟨e1', tt', e2'⟩ := po'; subst e1' e2'; clear ap' b'; (try simp only [List.nil_append, List.cons_append] at N'); k_sweep; (try dsimp only))
    k_with "my call" => (
      (with_reducible show wpAny _ _ (call (Value.ref 181) _) _ _ _)
      (rename (@Ne Nat _ _ ∧ _) => o9'); (repeat (obtain ⟨_, o9'⟩ := o9'))
      (rename News _ _ _ _ => N9'); (replace N9' := News.swap2 N9')
      k_dflt (refine' CallOk.use (fits_in2_ok (x := xa') (d := da') (x2 := xb') (d2 := db') hw LV.none hw2 LV.none ho lo (by k_ne) (by k_ne) (by k_ne) (by k_ne) (by k_ne) (by k_ne) (by k_ne) (by k_ne) (by k_ne) (by k_ne)) ?B ?F ?X ?N ?T ?hf ?hk ?hd ?hu ?P ?ap ?_; ktr_rel)
      intro r' led' h' tk' F' N' b' ap' po'; obtain ⟨fa', vs', n', tl', vl', vd', vl2', vd2', e1', hpr', hoff', ⟨_, _, _, _, _⟩, e2'⟩ := po'; subst e1' e2'; (replace ap' := apartN_of ap'; simp only [ApartN, OffN, and_true, true_and] at ap'; obtain ⟨⟨_, _, _, _, _, _, hoC'⟩, ⟨_, _, _, _, _, _, hoA'⟩, ⟨_, _, _, _, _, _, hoR'⟩, ⟨_, _, _, _, _, _, hoS'⟩⟩ := ap'); clear b'; (try simp only [List.nil_append, List.cons_append] at N'); (replace N' := News.mid6 N'); (try simp only [List.nil_append, List.cons_append] at N'); (have hoffT := ownOff_cons hoC' (ownOff_cons hoA' (ownOff_cons hoR' (ownOff_cons hoS' hoff')))); k_sweep; (try dsimp only))
    k_with "pyIter ref" => k_dflt (
      (rename Fr _ _ _ _ => lF'); (rename News _ _ _ _ => lN');
      (with_unfolding_all refine' turns_listS (vs := vs') (nn := n') [Str.ofString "at", Str.ofString "number"] (JR ?cl ((fa', listOf vs'.toArray n') :: (xa', instObj 163 da') :: (da', ?od) :: (xb', instObj 163 db') :: (db', ?od2) :: (?sl, listOf #[.ref xa', .ref xb'] ?ns) :: (ra, listOf #[.ref r1, .ref r2] n0) :: (r1, tupOf #[.str (kdStr k) t2, vw, .bytes y t3, vb, va] c1) :: (r2, tupOf #[.str (kdStr k2) s2, vw2, .bytes y2 s3, vb2, va2] c2) :: tl') (fun i => foldP (two ys ys2) (two (width k xs) (width k2 xs2)) os ((fitsF os os.length 0 [⟨k, xs, beginOf os after, endOf os before, none, false⟩, ⟨k2, xs2, beginOf os after2, endOf os before2, none, false⟩]).take i))) (by rfl) lF' lN' ?sub ?jm ⟨?oc, o, t1, rfl, ?hoc, ho⟩ ?turn ?done);
      (case hoc => assumption);
      (case sub => (repeat (refine List.forall_mem_cons.mpr ?_; refine And.intro (by k_memK) ?_)); (intro q hq; k_ownIn));
      (case jm => (rintro i nx ⟨oc, z, tz, rfl, _, _⟩; exact List.Mem.tail _ (List.Mem.head _)));
      (all_goals (clear lF' lN'));
      (case' turn => (intro i v nx I oI u h tk hv zz9 hI F' N'; obtain ⟨oc, z, tz, rfl, hoc, hz⟩ := zz9; (replace hI := offN_of hI); (simp only [OffN] at hI); (obtain ⟨_, _, _, _, _, _, _, _, _, _, hIT⟩ := hI); (obtain ⟨a, j, n, c, ta, tb, rfl, hmem, hfs⟩ := hpr'.at hv); (have hzl := len2 (b := beginOf os after) (b2 := beginOf os after2) (width_pos hw).1 (end_le os before) (width_pos hw2).1 (end_le os before2) hyl hyl2 i); (dsimp only at hz); (generalize hzs : foldP (two ys ys2) (two (width k xs) (width k2 xs2)) os _ = zs at hz hzl); (obtain ⟨hj0, ⟨hj1, hj2⟩ | ⟨hj1, hj2⟩⟩ := mem2 (width_pos hw).1 (end_le os before) (width_pos hw2).1 (end_le os before2) _ (List.mem_of_getElem? hfs)); (all_goals (dsimp only at hj0 hj1 hj2; subst hj1)); (all_goals (first | (replace hmem : (a, tupOf #[Value.int j ta, Value.int 0 tb] c) ∈ tl' := hmem) | (replace hmem : (a, tupOf #[Value.int j ta, Value.int 1 tb] c) ∈ tl' := hmem))); (all_goals (try k_fold))));
      (case' done => (intro nx u h tk zz9 F' N'; obtain ⟨oc, z, tz, rfl, hoc, hz⟩ := zz9; (try dsimp only))))
    k_with "PPost" => (dsimp only [PPost])
    intro dp un gd env outer A₀ base h₀ L m s Q E B F X N T hfr hk hd hu hret
    walk_at "STEPC"
    k_steps
    · have e := hpr'.length
      dsimp only at hz
      rw [e, List.take_length] at hz
      exact hret _ [(ra, listOf #[.ref r1, .ref r2] n0), (r1, tupOf #[.str (kdStr k) t2, vw, .bytes y t3, vb, va] c1), (r2, tupOf #[.str (kdStr k2) s2, vw2, .bytes y2 s3, vb2, va2] c2)] _ _ (by k_asm) (News.sub (by assumption) (by k_allIn)) (Back.sub (Stays.back (by assumption) (by assumption) (by assumption)) (by k_allIn)) ⟨rfl, z, tz, rfl, hz⟩
    · have hwp := width_pos hw
      refine ⟨_, _, _, _, rfl, by assumption, News.sub (by assumption) ?eas, ?eao, ⟨_, _, _, rfl, by assumption, ?eaz⟩, ?ear⟩
      case eas =>
        repeat (refine List.forall_mem_cons.mpr ?_; refine And.intro (by k_memK) ?_)
        intro q hq; k_ownIn
      case eao => exact offN_to ⟨by k_ne, by k_ne, by k_ne, by k_ne, by k_ne, by k_ne, by k_ne, by k_ne, by k_ne, by k_ne, hIT⟩
      case eaz =>
        refine Eq.trans (by assumption) ((cut_put hj0 (by omega) (by rw [hzl]; exact hj2)).trans ?_)
        show putL zs j ys (width k xs) = foldP (two ys ys2) (two (width k xs) (width k2 xs2)) os ((fitsF os os.length 0 [⟨k, xs, beginOf os after, endOf os before, none, false⟩, ⟨k2, xs2, beginOf os after2, endOf os before2, none, false⟩]).take (i + 1))
        rw [foldP_step hfs, hzs]
        rfl
      case ear =>
        intro q h3
        simp only [List.contains_cons, List.contains_nil, Bool.or_false, Bool.or_eq_false_iff, beq_eq_false_iff_ne, ne_eq] at h3
        simp [h3]
    · have hwp := width_pos hw2
      refine ⟨_, _, _, _, rfl, by assumption, News.sub (by assumption) ?ebs, ?ebo, ⟨_, _, _, rfl, by assumption, ?ebz⟩, ?ebr⟩
      case ebs =>
        repeat (refine List.forall_mem_cons.mpr ?_; refine And.intro (by k_memK) ?_)
        intro q hq; k_ownIn
      case ebo => exact offN_to ⟨by k_ne, by k_ne, by k_ne, by k_ne, by k_ne, by k_ne, by k_ne, by k_ne, by k_ne, by k_ne, hIT⟩
      case ebz =>
        refine Eq.trans (by assumption) ((cut_put hj0 (by omega) (by rw [hzl]; exact hj2)).trans ?_)
        show putL zs j ys2 (width k2 xs2) = foldP (two ys ys2) (two (width k xs) (width k2 xs2)) os ((fitsF os os.length 0 [⟨k, xs, beginOf os after, endOf os before, none, false⟩, ⟨k2, xs2, beginOf os after2, endOf os before2, none, false⟩]).take (i + 1))
        rw [foldP_step hfs, hzs]
        rfl
      case ebr =>
        intro q h3
        simp only [List.contains_cons, List.contains_nil, Bool.or_false, Bool.or_eq_false_iff, beq_eq_false_iff_ne, ne_eq] at h3
        simp [h3]
  case F9 =>
    intros h9
    k_with_none
    conv at h9 => skip
    conv at h9 => zeta
    exact @ofTag _ _ (tag_triv : type_of% h9)))
end
end SReplIn2
section SHands
section
variable {prog : Program} {w : World} {p : Program} {loose : List Str} {mean : ExcName → Option Value} {mg mb : Str → Option Value}
set_option maxRecDepth 100000 in
set_option maxHeartbeats 8000000 in
theorem lone_ok {hx hdd ff : Addr} {u1 u2 u3 u4 u5 u6 u7 : Tok} {vp va : Value} {fo : FuncData} {fc : Value} {fod : Option Addr} {fs : Array (Option Value)} {G : Led} {post : Value → Prop} (HF : ∀ t, ROk prog w p loose mean mg mb 3 140 (.ref ff) [va, .int 1 t] ((ff, ⟨fc, fod, .func fo, fs⟩) :: G) post) :
    ROk prog w p loose mean mg mb 4 160 (.ref 104) [va, .ref hx] ((hx, instObj 93 hdd) :: (hdd, haObj w.params u1 u2 u3 u4 u5 u6 u7 (.ref ff) vp) :: (ff, ⟨fc, fod, .func fo, fs⟩) :: G) post :=
  @ofTag _ _ (by exact tag_triv : Tag (by
  k_with_none
  w_top off
  k_with "ne9" => (first | exact ne_Nat | exact ne_Heap | exact ne_Value | exact ne_Str | exact ne_Int | exact ne_Env | exact ne_Shared | exact ne_Around | exact ne_Program | exact ne_World | exact ne_List | exact ne_Option | exact ne_Arr | exact ne_Obj | exact ne_FuncData | exact ne_prod ne_Nat ne_Obj | exact ne_fun ne_Prop | exact ne_fun (ne_fun ne_Prop) | exact ne_fun ne_Option | exact ⟨Kd.chars⟩ | exact ⟨Opd.zero⟩ | (refine ⟨?_⟩; exact default) | (refine ⟨?_⟩; constructor <;> (first | exact default | exact Kd.chars | exact Opd.zero | exact tupOf #[] 0)))
  revert prog w p loose mean mg mb hx hdd ff u1 u2 u3 u4 u5 u6 u7 vp va fo fc fod fs G post HF
  refine no_implicit_lambda% ((?F9 : @Tag ?T9 (?prf9 : ?T9) → ?T9) tag_triv)
  case prf9 =>
    intro prog w p loose mean mg mb hx hdd ff u1 u2 u3 u4 u5 u6 u7 vp va fo fc fod fs G post HF
    k_with_none
    k_with "ne9" => (first | exact ne_Nat | exact ne_Heap | exact ne_Value | exact ne_Str | exact ne_Int | exact ne_Env | exact ne_Shared | exact ne_Around | exact ne_Program | exact ne_World | exact ne_List | exact ne_Option | exact ne_Arr | exact ne_Obj | exact ne_FuncData | exact ne_prod ne_Nat ne_Obj | exact ne_fun ne_Prop | exact ne_fun (ne_fun ne_Prop) | exact ne_fun ne_Option | exact ⟨Kd.chars⟩ | exact ⟨Opd.zero⟩ | (refine ⟨?_⟩; exact default) | (refine ⟨?_⟩; constructor <;> (first | exact default | exact Kd.chars | exact Opd.zero | exact tupOf #[] 0)))
    k_with "k_lt_skip" => skip
    k_with "k_all" => (first | (with_reducible assumption) | exact all_ne (by with_reducible assumption) (by intro q hq; k_ownIn))
    k_with "k_ne" => (first | exact ne_l (by with_reducible assumption) (by k_memK) | exact Ne.symm (ne_l (by with_reducible assumption) (by k_memK)) | exact ne_l1 (by with_reducible assumption) (by k_memK) | exact ne_l2 (by with_reducible assumption) (by k_memK) | exact ne_l3 (by with_reducible assumption) (by k_memK) | exact Ne.symm (ne_l1 (by with_reducible assumption) (by k_memK)) | exact Ne.symm (ne_l2 (by with_reducible assumption) (by k_memK)))
    k_with "room" => (first | exact rm0 (by with_reducible assumption) | exact rm1 (by with_reducible assumption) (by decide) | exact rm2 (by with_reducible assumption) (by decide) | exact rm3 (by with_reducible assumption) (by decide))
    k_with "units" => (first | exact rm0 (by with_reducible assumption) | exact rm1 (by with_reducible assumption) (by decide) | exact rm2 (by with_reducible assumption) (by decide) | exact rm3 (by with_reducible assumption) (by decide))
    k_with "ktu_obj" => (refine AllObj.cons ?_; intro o' hc'; (try dsimp only at hc'))
    k_with "ItemsRest" => (first | ((with_unfolding_all refine ItemsRest.val ?_); intro h' tk' F'; ktu_objs) | ((with_unfolding_all refine ItemsRest.pair ?_); intro T' t' h' tk' hT' F'; (try dsimp only at hT'); ktu_objs) | ((with_unfolding_all refine ItemsRest.tok ?_); intro t' h' tk' F'; (try dsimp only); ktu_objs) | ((with_unfolding_all refine ItemsRest.zero ?_); intro h' tk' F' N'))
    k_with "call ref" => (k_extra "my call")
    k_with "pyIter ref" => (k_extra "my loop")
    k_with "exec While Compare" => (k_dflt (k_extra "my while"))
    k_with "exec While BoolOp" => (k_dflt (k_extra "my while"))
    k_with "STEPC" => (refine wpAny_call ?_; k_dflt (refine' code_hereC ?k1 ?k2 ?k3 ?k4 ?k5 ?kA ?kF ?kK ?k6 ?k7 ?k8 ?k9 ?kB ?kD ?_ ?c2 ?c3 ?c4; (case kA => exact rfl); (case kF => assumption); (case kK => assumption); (case k1 => k_asm); (case k2 => k_asm); (case k3 => k_asm); (case k4 => k_asm); (case k5 => k_asm); (case k6 => k_is); (case k7 => k_is); (case k8 => ktr_room); (case k9 => exact BindsTo.of_eq rfl); (case kB => exact rfl); (case kD => decide +kernel); (case c2 => exact rfl); (case c3 => exact rfl); (case c4 => exact rfl); k_whole; intro g' L' h' tk' cells' S' FG' F' N' Y' B' X' T' l1; (try k_lt l1); k_cells Y'; (try simp only [List.cons_append, List.nil_append] at N'); (try dsimp only); (try k_lift B'); (try k_fold)))
    k_with "ite" => (k_closed; first | refine ite_pos (by decide +kernel) ?_ | refine ite_neg (by decide +kernel) ?_)
    k_with "RELR" => (
      (case B => k_asm); (case F => k_asm); (case X => k_asm); (case N => k_asm); (case T => k_asm); (case hf => exact rfl); (case hk => first | exact rfl | assumption); (case hd => ktr_room); (case hu => ktr_units);
      (case P => k_allIn);
      k_whole)
    k_with "getMethod ref" => (k_here; (with_reducible first | show wpAny _ _ (getMethod (Value.ref _) (Str.ofString "fetch") _) _ _ _ | show wpAny _ _ (getMethod (Value.ref _) (Str.ofString "plant") _) _ _ _); k_dflt (refine' kmu_own ?k1 ?k2 ?k3 ?k4 ?k5 ?_; (case k1 => k_asm); (case k2 => k_asm); (case k3 => k_inst); (case k4 => k_is); (case k5 => k_is); k_whole))
    k_with "callWith ref" => (k_here; k_dflt (refine' callWith_F ?k1 ?_; (case k1 => exact FnAt.of (by k_asm) (by k_mem)); k_whole))
    k_with "RELT" => ((case B => k_asm); (case F => k_asm); (case X => k_asm); (case N => k_asm); (case T => k_asm); (case hf => exact rfl); (case hk => first | exact rfl | assumption); (case hd => ktr_room); (case hu => ktr_units))
    k_with "my call" => (
      (with_reducible show wpAny _ _ (call (Value.ref ff) _) _ _ _)
      k_dflt (refine' CallOk.useR (HF _) ?B ?F ?X ?N ?T ?hf ?hk ?hd ?hu ?P ?_; walk_at "RELT"; (case P => exact fun q hq => .tail _ (.tail _ hq)); k_whole)
      intro r' h' tk' F' N' po'; k_sweep; (try dsimp only))
    intro dp un gd env outer A₀ base h₀ L m s Q E B F X N T hfr hk hd hu hret
    cell_step
    k_steps
    exact hret _ _ _ _ (by k_asm) (by assumption) (Stays.back (by assumption) (by assumption) (by assumption)) ⟨rfl, po'⟩
  case F9 =>
    intros h9
    k_with_none
    conv at h9 => skip
    conv at h9 => zeta
    exact @ofTag _ _ (tag_triv : type_of% h9)))
set_option maxRecDepth 100000 in
set_option maxHeartbeats 8000000 in
theorem sought_ok {hx hdd ff : Addr} {u1 u2 u3 u4 u5 u6 u7 : Tok} {vp va : Value} {fo : FuncData} {fc : Value} {fod : Option Addr} {fs : Array (Option Value)} {G : Led} {oo : Option Opd} (hv : OpV oo va)
    (HF : ∀ op a, oo = some op → va = .ref a → ∀ t, ROk prog w p loose mean mg mb 3 140 (.ref ff) [.ref a, .int 1 t] ((ff, ⟨fc, fod, .func fo, fs⟩) :: G) (BV (constL op 1))) :
    ROk prog w p loose mean mg mb 5 180 (.ref 193) [va, .ref hx] ((hx, instObj 93 hdd) :: (hdd, haObj w.params u1 u2 u3 u4 u5 u6 u7 (.ref ff) vp) :: (ff, ⟨fc, fod, .func fo, fs⟩) :: G) (SV oo) :=
  @ofTag _ _ (by exact tag_triv : Tag (by
  k_with_none
  w_top off
  k_with "ne9" => (first | exact ne_Nat | exact ne_Heap | exact ne_Value | exact ne_Str | exact ne_Int | exact ne_Env | exact ne_Shared | exact ne_Around | exact ne_Program | exact ne_World | exact ne_List | exact ne_Option | exact ne_Arr | exact ne_Obj | exact ne_FuncData | exact ne_prod ne_Nat ne_Obj | exact ne_fun ne_Prop | exact ne_fun (ne_fun ne_Prop) | exact ne_fun ne_Option | exact ⟨Kd.chars⟩ | exact ⟨Opd.zero⟩ | (refine ⟨?_⟩; exact default) | (refine ⟨?_⟩; constructor <;> (first | exact default | exact Kd.chars | exact Opd.zero | exact tupOf #[] 0)))
  revert prog w p loose mean mg mb hx hdd ff u1 u2 u3 u4 u5 u6 u7 vp va fo fc fod fs G oo hv HF
  refine no_implicit_lambda% ((?F9 : @Tag ?T9 (?prf9 : ?T9) → ?T9) tag_triv)
  case prf9 =>
    intro prog w p loose mean mg mb hx hdd ff u1 u2 u3 u4 u5 u6 u7 vp va fo fc fod fs G oo hv HF
    cases hv
    case none =>
      k_with_none
      k_with "ne9" => (first | exact ne_Nat | exact ne_Heap | exact ne_Value | exact ne_Str | exact ne_Int | exact ne_Env | exact ne_Shared | exact ne_Around | exact ne_Program | exact ne_World | exact ne_List | exact ne_Option | exact ne_Arr | exact ne_Obj | exact ne_FuncData | exact ne_prod ne_Nat ne_Obj | exact ne_fun ne_Prop | exact ne_fun (ne_fun ne_Prop) | exact ne_fun ne_Option | exact ⟨Kd.chars⟩ | exact ⟨Opd.zero⟩ | (refine ⟨?_⟩; exact default) | (refine ⟨?_⟩; constructor <;> (first | exact default | exact Kd.chars | exact Opd.zero | exact tupOf #[] 0)))
      k_with "k_lt_skip" => skip
      k_with "k_all" => (first | (with_reducible assumption) | exact all_ne (by with_reducible assumption) (by intro q hq; k_ownIn))
      k_with "k_ne" => (first | exact ne_l (by with_reducible assumption) (by k_memK) | exact Ne.symm (ne_l (by with_reducible assumption) (by k_memK)) | exact ne_l1 (by with_reducible assumption) (by k_memK) | exact ne_l2 (by with_reducible assumption) (by k_memK) | exact ne_l3 (by with_reducible assumption) (by k_memK) | exact Ne.symm (ne_l1 (by with_reducible assumption) (by k_memK)) | exact Ne.symm (ne_l2 (by with_reducible assumption) (by k_memK)))
      k_with "room" => (first | exact rm0 (by with_reducible assumption) | exact rm1 (by with_reducible assumption) (by decide) | exact rm2 (by with_reducible assumption) (by decide) | exact rm3 (by with_reducible assumption) (by decide))
      k_with "units" => (first | exact rm0 (by with_reducible assumption) | exact rm1 (by with_reducible assumption) (by decide) | exact rm2 (by with_reducible assumption) (by decide) | exact rm3 (by with_reducible assumption) (by decide))
      k_with "ktu_obj" => (refine AllObj.cons ?_; intro o' hc'; (try dsimp only at hc'))
      k_with "ItemsRest" => (first | ((with_unfolding_all refine ItemsRest.val ?_); intro h' tk' F'; ktu_objs) | ((with_unfolding_all refine ItemsRest.pair ?_); intro T' t' h' tk' hT' F'; (try dsimp only at hT'); ktu_objs) | ((with_unfolding_all refine ItemsRest.tok ?_); intro t' h' tk' F'; (try dsimp only); ktu_objs) | ((with_unfolding_all refine ItemsRest.zero ?_); intro h' tk' F' N'))
      k_with "call ref" => (k_extra "my call")
      k_with "pyIter ref" => (k_extra "my loop")
      k_with "exec While Compare" => (k_dflt (k_extra "my while"))
      k_with "exec While BoolOp" => (k_dflt (k_extra "my while"))
      k_with "STEPC" => (refine wpAny_call ?_; k_dflt (refine' code_hereC ?k1 ?k2 ?k3 ?k4 ?k5 ?kA ?kF ?kK ?k6 ?k7 ?k8 ?k9 ?kB ?kD ?_ ?c2 ?c3 ?c4; (case kA => exact rfl); (case kF => assumption); (case kK => assumption); (case k1 => k_asm); (case k2 => k_asm); (case k3 => k_asm); (case k4 => k_asm); (case k5 => k_asm); (case k6 => k_is); (case k7 => k_is); (case k8 => ktr_room); (case k9 => exact BindsTo.of_eq rfl); (case kB => exact rfl); (case kD => decide +kernel); (case c2 => exact rfl); (case c3 => exact rfl); (case c4 => exact rfl); k_whole; intro g' L' h' tk' cells' S' FG' F' N' Y' B' X' T' l1; (try k_lt l1); k_cells Y'; (try simp only [List.cons_append, List.nil_append] at N'); (try dsimp only); (try k_lift B'); (try k_fold)))
      k_with "ite" => (k_closed; first | refine ite_pos (by decide +kernel) ?_ | refine ite_neg (by decide +kernel) ?_)
      k_with "RELR" => (
        (case B => k_asm); (case F => k_asm); (case X => k_asm); (case N => k_asm); (case T => k_asm); (case hf => exact rfl); (case hk => first | exact rfl | assumption); (case hd => ktr_room); (case hu => ktr_units);
        (case P => k_allIn);
        k_whole)
      k_with "getMethod ref" => (k_here; (with_reducible first | show wpAny _ _ (getMethod (Value.ref _) (Str.ofString "fetch") _) _ _ _ | show wpAny _ _ (getMethod (Value.ref _) (Str.ofString "plant") _) _ _ _); k_dflt (refine' kmu_own ?k1 ?k2 ?k3 ?k4 ?k5 ?_; (case k1 => k_asm); (case k2 => k_asm); (case k3 => k_inst); (case k4 => k_is); (case k5 => k_is); k_whole))
      k_with "callWith ref" => (k_here; k_dflt (refine' callWith_F ?k1 ?_; (case k1 => exact FnAt.of (by k_asm) (by k_mem)); k_whole))
      k_with "RELT" => ((case B => k_asm); (case F => k_asm); (case X => k_asm); (case N => k_asm); (case T => k_asm); (case hf => exact rfl); (case hk => first | exact rfl | assumption); (case hd => ktr_room); (case hu => ktr_units))
      intro dp un gd env outer A₀ base h₀ L m s Q E B F X N T hfr hk hd hu hret
      cell_step
      k_steps
      exact hret _ _ _ _ (by k_asm) (by assumption) (Stays.back (by assumption) (by assumption) (by assumption)) ⟨rfl, .none⟩
    case some op a =>
      revert op a; intro op a; (set_option tactic.hygienic false in intros)
      k_with_none
      k_with "ne9" => (first | exact ne_Nat | exact ne_Heap | exact ne_Value | exact ne_Str | exact ne_Int | exact ne_Env | exact ne_Shared | exact ne_Around | exact ne_Program | exact ne_World | exact ne_List | exact ne_Option | exact ne_Arr | exact ne_Obj | exact ne_FuncData | exact ne_prod ne_Nat ne_Obj | exact ne_fun ne_Prop | exact ne_fun (ne_fun ne_Prop) | exact ne_fun ne_Option | exact ⟨Kd.chars⟩ | exact ⟨Opd.zero⟩ | (refine ⟨?_⟩; exact default) | (refine ⟨?_⟩; constructor <;> (first | exact default | exact Kd.chars | exact Opd.zero | exact tupOf #[] 0)))
      k_with "k_lt_skip" => skip
      k_with "k_all" => (first | (with_reducible assumption) | exact all_ne (by with_reducible assumption) (by intro q hq; k_ownIn))
      k_with "k_ne" => (first | exact ne_l (by with_reducible assumption) (by k_memK) | exact Ne.symm (ne_l (by with_reducible assumption) (by k_memK)) | exact ne_l1 (by with_reducible assumption) (by k_memK) | exact ne_l2 (by with_reducible assumption) (by k_memK) | exact ne_l3 (by with_reducible assumption) (by k_memK) | exact Ne.symm (ne_l1 (by with_reducible assumption) (by k_memK)) | exact Ne.symm (ne_l2 (by with_reducible assumption) (by k_memK)))
      k_with "room" => (first | exact rm0 (by with_reducible assumption) | exact rm1 (by with_reducible assumption) (by decide) | exact rm2 (by with_reducible assumption) (by decide) | exact rm3 (by with_reducible assumption) (by decide))
      k_with "units" => (first | exact rm0 (by with_reducible assumption) | exact rm1 (by with_reducible assumption) (by decide) | exact rm2 (by with_reducible assumption) (by decide) | exact rm3 (by with_reducible assumption) (by decide))
      k_with "ktu_obj" => (refine AllObj.cons ?_; intro o' hc'; (try dsimp only at hc'))
      k_with "ItemsRest" => (first | ((with_unfolding_all refine ItemsRest.val ?_); intro h' tk' F'; ktu_objs) | ((with_unfolding_all refine ItemsRest.pair ?_); intro T' t' h' tk' hT' F'; (try dsimp only at hT'); ktu_objs) | ((with_unfolding_all refine ItemsRest.tok ?_); intro t' h' tk' F'; (try dsimp only); ktu_objs) | ((with_unfolding_all refine ItemsRest.zero ?_); intro h' tk' F' N'))
      k_with "call ref" => (k_extra "my call")
      k_with "pyIter ref" => (k_extra "my loop")
      k_with "exec While Compare" => (k_dflt (k_extra "my while"))
      k_with "exec While BoolOp" => (k_dflt (k_extra "my while"))
      k_with "STEPC" => (refine wpAny_call ?_; k_dflt (refine' code_hereC ?k1 ?k2 ?k3 ?k4 ?k5 ?kA ?kF ?kK ?k6 ?k7 ?k8 ?k9 ?kB ?kD ?_ ?c2 ?c3 ?c4; (case kA => exact rfl); (case kF => assumption); (case kK => assumption); (case k1 => k_asm); (case k2 => k_asm); (case k3 => k_asm); (case k4 => k_asm); (case k5 => k_asm); (case k6 => k_is); (case k7 => k_is); (case k8 => ktr_room); (case k9 => exact BindsTo.of_eq rfl); (case kB => exact rfl); (case kD => decide +kernel); (case c2 => exact rfl); (case c3 => exact rfl); (case c4 => exact rfl); k_whole; intro g' L' h' tk' cells' S' FG' F' N' Y' B' X' T' l1; (try k_lt l1); k_cells Y'; (try simp only [List.cons_append, List.nil_append] at N'); (try dsimp only); (try k_lift B'); (try k_fold)))
      k_with "ite" => (k_closed; first | refine ite_pos (by decide +kernel) ?_ | refine ite_neg (by decide +kernel) ?_)
      k_with "RELR" => (
        (case B => k_asm); (case F => k_asm); (case X => k_asm); (case N => k_asm); (case T => k_asm); (case hf => exact rfl); (case hk => first | exact rfl | assumption); (case hd => ktr_room); (case hu => ktr_units);
        (case P => k_allIn);
        k_whole)
      k_with "getMethod ref" => (k_here; (with_reducible first | show wpAny _ _ (getMethod (Value.ref _) (Str.ofString "fetch") _) _ _ _ | show wpAny _ _ (getMethod (Value.ref _) (Str.ofString "plant") _) _ _ _); k_dflt (refine' kmu_own ?k1 ?k2 ?k3 ?k4 ?k5 ?_; (case k1 => k_asm); (case k2 => k_asm); (case k3 => k_inst); (case k4 => k_is); (case k5 => k_is); k_whole))
      k_with "callWith ref" => (k_here; k_dflt (refine' callWith_F ?k1 ?_; (case k1 => exact FnAt.of (by k_asm) (by k_mem)); k_whole))
      k_with "RELT" => ((case B => k_asm); (case F => k_asm); (case X => k_asm); (case N => k_asm); (case T => k_asm); (case hf => exact rfl); (case hk => first | exact rfl | assumption); (case hd => ktr_room); (case hu => ktr_units))
      k_with "my call" => (
        (with_reducible show wpAny _ _ (call (Value.ref 104) _) _ _ _)
        k_dflt (refine' CallOk.useR (lone_ok (HF op a rfl rfl)) ?B ?F ?X ?N ?T ?hf ?hk ?hd ?hu ?P ?_; walk_at "RELT"; (case P => exact fun q hq => hq); k_whole)
        intro r' h' tk' F' N' po'; k_sweep; (try dsimp only))
      intro dp un gd env outer A₀ base h₀ L m s Q E B F X N T hfr hk hd hu hret
      cell_step
      k_steps
      obtain ⟨bq', tq', eq', hb⟩ := BV.el po'; subst eq'
      exact hret _ _ _ _ (by k_asm) (by assumption) (Stays.back (by assumption) (by assumption) (by assumption)) ⟨rfl, .some hb⟩
  case F9 =>
    intros h9
    k_with_none
    conv at h9 => skip
    conv at h9 => zeta
    exact @ofTag _ _ (tag_triv : type_of% h9)))
set_option maxRecDepth 100000 in
set_option maxHeartbeats 8000000 in
theorem put_in_ok {hx hdd ff : Addr} {u1 u2 u3 u4 u5 u6 u7 : Tok} {vp vb vw : Value} {fo : FuncData} {fc : Value} {fod : Option Addr} {fs : Array (Option Value)} {G : Led} {post : Value → Prop} {k : Kd} {xs : Oct} (hw : WV k xs vw)
    (HF : ∀ t, ROk prog w p loose mean mg mb 3 140 (.ref ff) [vb, .int (width k xs) t] ((ff, ⟨fc, fod, .func fo, fs⟩) :: G) post) :
    ROk prog w p loose mean mg mb 4 160 (.ref 200) [vb, vw, .ref hx] ((hx, instObj 93 hdd) :: (hdd, haObj w.params u1 u2 u3 u4 u5 u6 u7 (.ref ff) vp) :: (ff, ⟨fc, fod, .func fo, fs⟩) :: G) post :=
  @ofTag _ _ (by exact tag_triv : Tag (by
  k_with_none
  w_top off
  k_with "ne9" => (first | exact ne_Nat | exact ne_Heap | exact ne_Value | exact ne_Str | exact ne_Int | exact ne_Env | exact ne_Shared | exact ne_Around | exact ne_Program | exact ne_World | exact ne_List | exact ne_Option | exact ne_Arr | exact ne_Obj | exact ne_FuncData | exact ne_prod ne_Nat ne_Obj | exact ne_fun ne_Prop | exact ne_fun (ne_fun ne_Prop) | exact ne_fun ne_Option | exact ⟨Kd.chars⟩ | exact ⟨Opd.zero⟩ | (refine ⟨?_⟩; exact default) | (refine ⟨?_⟩; constructor <;> (first | exact default | exact Kd.chars | exact Opd.zero | exact tupOf #[] 0)))
  revert prog w p loose mean mg mb hx hdd ff u1 u2 u3 u4 u5 u6 u7 vp vb vw fo fc fod fs G post k xs hw HF
  refine no_implicit_lambda% ((?F9 : @Tag ?T9 (?prf9 : ?T9) → ?T9) tag_triv)
  case prf9 =>
    intro prog w p loose mean mg mb hx hdd ff u1 u2 u3 u4 u5 u6 u7 vp vb vw fo fc fod fs G post k xs hw HF
    cases hw
    case chars =>
      have HF' : ∀ t, ROk prog w p loose mean mg mb 3 140 (.ref ff) [vb, .int 1 t] ((ff, ⟨fc, fod, .func fo, fs⟩) :: G) post := HF
      k_with_none
      k_with "ne9" => (first | exact ne_Nat | exact ne_Heap | exact ne_Value | exact ne_Str | exact ne_Int | exact ne_Env | exact ne_Shared | exact ne_Around | exact ne_Program | exact ne_World | exact ne_List | exact ne_Option | exact ne_Arr | exact ne_Obj | exact ne_FuncData | exact ne_prod ne_Nat ne_Obj | exact ne_fun ne_Prop | exact ne_fun (ne_fun ne_Prop) | exact ne_fun ne_Option | exact ⟨Kd.chars⟩ | exact ⟨Opd.zero⟩ | (refine ⟨?_⟩; exact default) | (refine ⟨?_⟩; constructor <;> (first | exact default | exact Kd.chars | exact Opd.zero | exact tupOf #[] 0)))
      k_with "k_lt_skip" => skip
      k_with "k_all" => (first | (with_reducible assumption) | exact all_ne (by with_reducible assumption) (by intro q hq; k_ownIn))
      k_with "k_ne" => (first | exact ne_l (by with_reducible assumption) (by k_memK) | exact Ne.symm (ne_l (by with_reducible assumption) (by k_memK)) | exact ne_l1 (by with_reducible assumption) (by k_memK) | exact ne_l2 (by with_reducible assumption) (by k_memK) | exact ne_l3 (by with_reducible assumption) (by k_memK) | exact Ne.symm (ne_l1 (by with_reducible assumption) (by k_memK)) | exact Ne.symm (ne_l2 (by with_reducible assumption) (by k_memK)))
      k_with "room" => (first | exact rm0 (by with_reducible assumption) | exact rm1 (by with_reducible assumption) (by decide) | exact rm2 (by with_reducible assumption) (by decide) | exact rm3 (by with_reducible assumption) (by decide))
      k_with "units" => (first | exact rm0 (by with_reducible assumption) | exact rm1 (by with_reducible assumption) (by decide) | exact rm2 (by with_reducible assumption) (by decide) | exact rm3 (by with_reducible assumption) (by decide))
      k_with "ktu_obj" => (refine AllObj.cons ?_; intro o' hc'; (try dsimp only at hc'))
      k_with "ItemsRest" => (first | ((with_unfolding_all refine ItemsRest.val ?_); intro h' tk' F'; ktu_objs) | ((with_unfolding_all refine ItemsRest.pair ?_); intro T' t' h' tk' hT' F'; (try dsimp only at hT'); ktu_objs) | ((with_unfolding_all refine ItemsRest.tok ?_); intro t' h' tk' F'; (try dsimp only); ktu_objs) | ((with_unfolding_all refine ItemsRest.zero ?_); intro h' tk' F' N'))
      k_with "call ref" => (k_extra "my call")
      k_with "pyIter ref" => (k_extra "my loop")
      k_with "exec While Compare" => (k_dflt (k_extra "my while"))
      k_with "exec While BoolOp" => (k_dflt (k_extra "my while"))
      k_with "STEPC" => (refine wpAny_call ?_; k_dflt (refine' code_hereC ?k1 ?k2 ?k3 ?k4 ?k5 ?kA ?kF ?kK ?k6 ?k7 ?k8 ?k9 ?kB ?kD ?_ ?c2 ?c3 ?c4; (case kA => exact rfl); (case kF => assumption); (case kK => assumption); (case k1 => k_asm); (case k2 => k_asm); (case k3 => k_asm); (case k4 => k_asm); (case k5 => k_asm); (case k6 => k_is); (case k7 => k_is); (case k8 => ktr_room); (case k9 => exact BindsTo.of_eq rfl); (case kB => exact rfl); (case kD => decide +kernel); (case c2 => exact rfl); (case c3 => exact rfl); (case c4 => exact rfl); k_whole; intro g' L' h' tk' cells' S' FG' F' N' Y' B' X' T' l1; (try k_lt l1); k_cells Y'; (try simp only [List.cons_append, List.nil_append] at N'); (try dsimp only); (try k_lift B'); (try k_fold)))
      k_with "ite" => (k_closed; first | refine ite_pos (by decide +kernel) ?_ | refine ite_neg (by decide +kernel) ?_)
      k_with "RELR" => (
        (case B => k_asm); (case F => k_asm); (case X => k_asm); (case N => k_asm); (case T => k_asm); (case hf => exact rfl); (case hk => first | exact rfl | assumption); (case hd => ktr_room); (case hu => ktr_units);
        (case P => k_allIn);
        k_whole)
      k_with "getMethod ref" => (k_here; (with_reducible first | show wpAny _ _ (getMethod (Value.ref _) (Str.ofString "fetch") _) _ _ _ | show wpAny _ _ (getMethod (Value.ref _) (Str.ofString "plant") _) _ _ _); k_dflt (refine' kmu_own ?k1 ?k2 ?k3 ?k4 ?k5 ?_; (case k1 => k_asm); (case k2 => k_asm); (case k3 => k_inst); (case k4 => k_is); (case k5 => k_is); k_whole))
      k_with "callWith ref" => (k_here; k_dflt (refine' callWith_F ?k1 ?_; (case k1 => exact FnAt.of (by k_asm) (by k_mem)); k_whole))
      k_with "RELT" => ((case B => k_asm); (case F => k_asm); (case X => k_asm); (case N => k_asm); (case T => k_asm); (case hf => exact rfl); (case hk => first | exact rfl | assumption); (case hd => ktr_room); (case hu => ktr_units))
      k_with "my call" => (
        (with_reducible show wpAny _ _ (call (Value.ref ff) _) _ _ _)
        k_dflt (refine' CallOk.useR (HF' _) ?B ?F ?X ?N ?T ?hf ?hk ?hd ?hu ?P ?_; walk_at "RELT"; (case P => exact fun q hq => .tail _ (.tail _ hq)); k_whole)
        intro r' h' tk' F' N' po'; k_sweep; (try dsimp only))
      intro dp un gd env outer A₀ base h₀ L m s Q E B F X N T hfr hk hd hu hret
      cell_step
      k_steps
      exact hret _ _ _ _ (by k_asm) (by assumption) (Stays.back (by assumption) (by assumption) (by assumption)) ⟨rfl, po'⟩
    case oct b t hk0 hb l0 l1 =>
      revert b t; intro b t; (set_option tactic.hygienic false in intros)
      rw [width_oct hk0] at HF
      k_with_none
      k_with "ne9" => (first | exact ne_Nat | exact ne_Heap | exact ne_Value | exact ne_Str | exact ne_Int | exact ne_Env | exact ne_Shared | exact ne_Around | exact ne_Program | exact ne_World | exact ne_List | exact ne_Option | exact ne_Arr | exact ne_Obj | exact ne_FuncData | exact ne_prod ne_Nat ne_Obj | exact ne_fun ne_Prop | exact ne_fun (ne_fun ne_Prop) | exact ne_fun ne_Option | exact ⟨Kd.chars⟩ | exact ⟨Opd.zero⟩ | (refine ⟨?_⟩; exact default) | (refine ⟨?_⟩; constructor <;> (first | exact default | exact Kd.chars | exact Opd.zero | exact tupOf #[] 0)))
      k_with "k_lt_skip" => skip
      k_with "k_all" => (first | (with_reducible assumption) | exact all_ne (by with_reducible assumption) (by intro q hq; k_ownIn))
      k_with "k_ne" => (first | exact ne_l (by with_reducible assumption) (by k_memK) | exact Ne.symm (ne_l (by with_reducible assumption) (by k_memK)) | exact ne_l1 (by with_reducible assumption) (by k_memK) | exact ne_l2 (by with_reducible assumption) (by k_memK) | exact ne_l3 (by with_reducible assumption) (by k_memK) | exact Ne.symm (ne_l1 (by with_reducible assumption) (by k_memK)) | exact Ne.symm (ne_l2 (by with_reducible assumption) (by k_memK)))
      k_with "room" => (first | exact rm0 (by with_reducible assumption) | exact rm1 (by with_reducible assumption) (by decide) | exact rm2 (by with_reducible assumption) (by decide) | exact rm3 (by with_reducible assumption) (by decide))
      k_with "units" => (first | exact rm0 (by with_reducible assumption) | exact rm1 (by with_reducible assumption) (by decide) | exact rm2 (by with_reducible assumption) (by decide) | exact rm3 (by with_reducible assumption) (by decide))
      k_with "ktu_obj" => (refine AllObj.cons ?_; intro o' hc'; (try dsimp only at hc'))
      k_with "ItemsRest" => (first | ((with_unfolding_all refine ItemsRest.val ?_); intro h' tk' F'; ktu_objs) | ((with_unfolding_all refine ItemsRest.pair ?_); intro T' t' h' tk' hT' F'; (try dsimp only at hT'); ktu_objs) | ((with_unfolding_all refine ItemsRest.tok ?_); intro t' h' tk' F'; (try dsimp only); ktu_objs) | ((with_unfolding_all refine ItemsRest.zero ?_); intro h' tk' F' N'))
      k_with "call ref" => (k_extra "my call")
      k_with "pyIter ref" => (k_extra "my loop")
      k_with "exec While Compare" => (k_dflt (k_extra "my while"))
      k_with "exec While BoolOp" => (k_dflt (k_extra "my while"))
      k_with "STEPC" => (refine wpAny_call ?_; k_dflt (refine' code_hereC ?k1 ?k2 ?k3 ?k4 ?k5 ?kA ?kF ?kK ?k6 ?k7 ?k8 ?k9 ?kB ?kD ?_ ?c2 ?c3 ?c4; (case kA => exact rfl); (case kF => assumption); (case kK => assumption); (case k1 => k_asm); (case k2 => k_asm); (case k3 => k_asm); (case k4 => k_asm); (case k5 => k_asm); (case k6 => k_is); (case k7 => k_is); (case k8 => ktr_room); (case k9 => exact BindsTo.of_eq rfl); (case kB => exact rfl); (case kD => decide +kernel); (case c2 => exact rfl); (case c3 => exact rfl); (case c4 => exact rfl); k_whole; intro g' L' h' tk' cells' S' FG' F' N' Y' B' X' T' l1; (try k_lt l1); k_cells Y'; (try simp only [List.cons_append, List.nil_append] at N'); (try dsimp only); (try k_lift B'); (try k_fold)))
      k_with "ite" => (k_closed; first | refine ite_pos (by decide +kernel) ?_ | refine ite_neg (by decide +kernel) ?_)
      k_with "RELR" => (
        (case B => k_asm); (case F => k_asm); (case X => k_asm); (case N => k_asm); (case T => k_asm); (case hf => exact rfl); (case hk => first | exact rfl | assumption); (case hd => ktr_room); (case hu => ktr_units);
        (case P => k_allIn);
        k_whole)
      k_with "getMethod ref" => (k_here; (with_reducible first | show wpAny _ _ (getMethod (Value.ref _) (Str.ofString "fetch") _) _ _ _ | show wpAny _ _ (getMethod (Value.ref _) (Str.ofString "plant") _) _ _ _); k_dflt (refine' kmu_own ?k1 ?k2 ?k3 ?k4 ?k5 ?_; (case k1 => k_asm); (case k2 => k_asm); (case k3 => k_inst); (case k4 => k_is); (case k5 => k_is); k_whole))
      k_with "callWith ref" => (k_here; k_dflt (refine' callWith_F ?k1 ?_; (case k1 => exact FnAt.of (by k_asm) (by k_mem)); k_whole))
      k_with "RELT" => ((case B => k_asm); (case F => k_asm); (case X => k_asm); (case N => k_asm); (case T => k_asm); (case hf => exact rfl); (case hk => first | exact rfl | assumption); (case hd => ktr_room); (case hu => ktr_units))
      k_with "my call" => (
        (with_reducible show wpAny _ _ (call (Value.ref ff) _) _ _ _)
        k_dflt (refine' CallOk.useR (HF _) ?B ?F ?X ?N ?T ?hf ?hk ?hd ?hu ?P ?_; walk_at "RELT"; (case P => exact fun q hq => .tail _ (.tail _ hq)); k_whole)
        intro r' h' tk' F' N' po'; k_sweep; (try dsimp only))
      intro dp un gd env outer A₀ base h₀ L m s Q E B F X N T hfr hk hd hu hret
      cell_step
      k_steps
      exact hret _ _ _ _ (by k_asm) (by assumption) (Stays.back (by assumption) (by assumption) (by assumption)) ⟨rfl, po'⟩
  case F9 =>
    intros h9
    k_with_none
    conv at h9 => skip
    conv at h9 => zeta
    exact @ofTag _ _ (tag_triv : type_of% h9)))
end
end SHands
section SRepW
section
variable {prog : Program} {w : World} {p : Program} {loose : List Str} {mean : ExcName → Option Value} {mg mb : Str → Option Value}
set_option maxRecDepth 100000 in
set_option maxHeartbeats 8000000 in
theorem replace_with1_ok {st tu r1 hx hdd ff fp it pl : Addr} {n c0 c1 : Nat} {ts : Tok} {u1 u2 u3 u4 u5 u6 u7 : Tok} {fo po : FuncData} {fc pc : Value} {fod pod : Option Addr} {fs ps : Array (Option Value)} {os : Oct} {TL : Led} {row : RowS} {robj : Obj}
    (lo : os.length ≤ 64) (H : HandsOk prog w p loose mean mg mb ff fp it pl (Fd fc fod fo fs) (Fd pc pod po ps) n os TL) (hr : RowOk TL row robj)
    (o1 : OffN pl [(st, robj), (tu, robj), (r1, robj), (hx, robj), (hdd, robj), (ff, robj), (fp, robj)]) (o2 : ∀ q ∈ TL, q.1 ≠ pl) :
    CallOk prog w p loose mean mg mb 8 400 (.ref 207) [.ref st, .ref hx] ((st, tupOf #[.str (Str.ofString "replace") ts, .ref it, .ref tu] c0) :: (tu, tupOf #[.ref r1] c1) :: (r1, robj) :: (hx, instObj 93 hdd) :: (hdd, haObj w.params u1 u2 u3 u4 u5 u6 u7 (.ref ff) (.ref fp)) :: (pl, listOf #[] n) :: (ff, Fd fc fod fo fs) :: (fp, Fd pc pod po ps) :: TL)
      (fun r led => ∃ t x n' c z tz, r = .str (Str.ofString "") t ∧ KBw.bInts z = repl1 os row ∧ led = (pl, listOf #[.ref x] n') :: (x, tupOf #[.ref it, .bytes z tz] c) :: (ff, Fd fc fod fo fs) :: (fp, Fd pc pod po ps) :: TL) :=
  @ofTag _ _ (by exact tag_triv : Tag (by
  k_with_none
  w_top off
  k_with "ne9" => (first | exact ne_Nat | exact ne_Heap | exact ne_Value | exact ne_Str | exact ne_Int | exact ne_Env | exact ne_Shared | exact ne_Around | exact ne_Program | exact ne_World | exact ne_List | exact ne_Option | exact ne_Arr | exact ne_Obj | exact ne_FuncData | exact ne_prod ne_Nat ne_Obj | exact ne_fun ne_Prop | exact ne_fun (ne_fun ne_Prop) | exact ne_fun ne_Option | exact ⟨Kd.chars⟩ | exact ⟨Opd.zero⟩ | (refine ⟨?_⟩; exact default) | (refine ⟨?_⟩; constructor <;> (first | exact default | exact Kd.chars | exact Opd.zero | exact tupOf #[] 0)))
  revert prog w p loose mean mg mb st tu r1 hx hdd ff fp it pl n c0 c1 ts u1 u2 u3 u4 u5 u6 u7 fo po fc pc fod pod fs ps os TL row robj lo H hr o1 o2
  refine no_implicit_lambda% ((?F9 : @Tag ?T9 (?prf9 : ?T9) → ?T9) tag_triv)
  case prf9 =>
    intro prog w p loose mean mg mb st tu r1 hx hdd ff fp it pl n c0 c1 ts u1 u2 u3 u4 u5 u6 u7 fo po fc pc fod pod fs ps os TL row robj lo H hr o1 o2
    obtain @⟨k, oo, be, af, opb, va, vbe, vaf, b1, ob, t2, c, hva, hob, hmb, hvb, hvf, hkc, hyl⟩ := hr
    simp only [OffN, and_true] at o1
    obtain ⟨o1a, o1b, o1c, o1d, o1e, o1f, o1g⟩ := o1
    k_with_none
    k_with "ne9" => (first | exact ne_Nat | exact ne_Heap | exact ne_Value | exact ne_Str | exact ne_Int | exact ne_Env | exact ne_Shared | exact ne_Around | exact ne_Program | exact ne_World | exact ne_List | exact ne_Option | exact ne_Arr | exact ne_Obj | exact ne_FuncData | exact ne_prod ne_Nat ne_Obj | exact ne_fun ne_Prop | exact ne_fun (ne_fun ne_Prop) | exact ne_fun ne_Option | exact ⟨Kd.chars⟩ | exact ⟨Opd.zero⟩ | (refine ⟨?_⟩; exact default) | (refine ⟨?_⟩; constructor <;> (first | exact default | exact Kd.chars | exact Opd.zero | exact tupOf #[] 0)))
    k_with "k_lt_skip" => skip
    k_with "k_all" => (first | (with_reducible assumption) | exact all_ne (by with_reducible assumption) (by intro q hq; k_ownIn))
    k_with "k_ne" => (first | exact ne_l (by with_reducible assumption) (by k_memK) | exact Ne.symm (ne_l (by with_reducible assumption) (by k_memK)) | exact ne_l1 (by with_reducible assumption) (by k_memK) | exact ne_l2 (by with_reducible assumption) (by k_memK) | exact ne_l3 (by with_reducible assumption) (by k_memK) | exact Ne.symm (ne_l1 (by with_reducible assumption) (by k_memK)) | exact Ne.symm (ne_l2 (by with_reducible assumption) (by k_memK)))
    k_with "room" => (first | exact rm0 (by with_reducible assumption) | exact rm1 (by with_reducible assumption) (by decide) | exact rm2 (by with_reducible assumption) (by decide) | exact rm3 (by with_reducible assumption) (by decide))
    k_with "units" => (first | exact rm0 (by with_reducible assumption) | exact rm1 (by with_reducible assumption) (by decide) | exact rm2 (by with_reducible assumption) (by decide) | exact rm3 (by with_reducible assumption) (by decide))
    k_with "ktu_obj" => (refine AllObj.cons ?_; intro o' hc'; (try dsimp only at hc'))
    k_with "ItemsRest" => (first | ((with_unfolding_all refine ItemsRest.val ?_); intro h' tk' F'; ktu_objs) | ((with_unfolding_all refine ItemsRest.pair ?_); intro T' t' h' tk' hT' F'; (try dsimp only at hT'); ktu_objs) | ((with_unfolding_all refine ItemsRest.tok ?_); intro t' h' tk' F'; (try dsimp only); ktu_objs) | ((with_unfolding_all refine ItemsRest.zero ?_); intro h' tk' F' N'))
    k_with "call ref" => (k_extra "my call")
    k_with "pyIter ref" => (k_extra "my loop")
    k_with "exec While Compare" => (k_dflt (k_extra "my while"))
    k_with "exec While BoolOp" => (k_dflt (k_extra "my while"))
    k_with "STEPC" => (refine wpAny_call ?_; k_dflt (refine' code_hereC ?k1 ?k2 ?k3 ?k4 ?k5 ?kA ?kF ?kK ?k6 ?k7 ?k8 ?k9 ?kB ?kD ?_ ?c2 ?c3 ?c4; (case kA => exact rfl); (case kF => assumption); (case kK => assumption); (case k1 => k_asm); (case k2 => k_asm); (case k3 => k_asm); (case k4 => k_asm); (case k5 => k_asm); (case k6 => k_is); (case k7 => k_is); (case k8 => ktr_room); (case k9 => exact BindsTo.of_eq rfl); (case kB => exact rfl); (case kD => decide +kernel); (case c2 => exact rfl); (case c3 => exact rfl); (case c4 => exact rfl); k_whole; intro g' L' h' tk' cells' S' FG' F' N' Y' B' X' T' l1; (try k_lt l1); k_cells Y'; (try simp only [List.cons_append, List.nil_append] at N'); (try dsimp only); (try k_lift B'); (try k_fold)))
    k_with "ite" => (k_closed; first | refine ite_pos (by decide +kernel) ?_ | refine ite_neg (by decide +kernel) ?_)
    k_with "RELR" => (
      (case B => k_asm); (case F => k_asm); (case X => k_asm); (case N => k_asm); (case T => k_asm); (case hf => exact rfl); (case hk => first | exact rfl | assumption); (case hd => ktr_room); (case hu => ktr_units);
      (case P => k_allIn);
      k_whole)
    k_with "getMethod ref" => (k_here; (with_reducible first | show wpAny _ _ (getMethod (Value.ref _) (Str.ofString "fetch") _) _ _ _ | show wpAny _ _ (getMethod (Value.ref _) (Str.ofString "plant") _) _ _ _); k_dflt (refine' kmu_own ?k1 ?k2 ?k3 ?k4 ?k5 ?_; (case k1 => k_asm); (case k2 => k_asm); (case k3 => k_inst); (case k4 => k_is); (case k5 => k_is); k_whole))
    k_with "callWith ref" => (k_here; k_dflt (refine' callWith_F ?k1 ?_; (case k1 => exact FnAt.of (by k_asm) (by k_mem)); k_whole))
    k_with "exec For Tuple Subscript" => (k_here; (rename Fr _ _ _ _ => lF'); (with_unfolding_all refine' For_turns lF' ?_; k_whole))
    k_with "RELT" => ((case B => k_asm); (case F => k_asm); (case X => k_asm); (case N => k_asm); (case T => k_asm); (case hf => exact rfl); (case hk => first | exact rfl | assumption); (case hd => ktr_room); (case hu => ktr_units))
    k_with "INN" => ((repeat (refine List.forall_mem_cons.mpr ?_; refine And.intro (by k_memK) ?_)); (first | exact List.forall_mem_nil _ | (intro q hq; k_ownIn)))
    k_with "my call" => (
      (with_reducible show wpAny _ _ (call (Value.ref 193) (va :: _)) _ _ _)
      k_dflt (refine' CallOk.useR (sought_ok hva.opv (H.opIn hva)) ?B ?F ?X ?N ?T ?hf ?hk ?hd ?hu ?P ?_; walk_at "RELT"; (case P => walk_at "INN"); k_whole)
      intro vw' h' tk' F' N' po'; have hvw' := po'.wv hkc hva; k_sweep; (try dsimp only))
    k_with "my call" => (
      (with_reducible show wpAny _ _ (call (Value.ref 200) _) _ _ _)
      k_dflt (refine' CallOk.useR (put_in_ok (by assumption) (H.by hob hmb (by assumption))) ?B ?F ?X ?N ?T ?hf ?hk ?hd ?hu ?P ?_; walk_at "RELT"; (case P => walk_at "INN"); k_whole)
      intro r' h' tk' F' N' po'; obtain ⟨bq', tq', eq', hy'⟩ := BV.el po'; subst eq'; k_sweep; (try dsimp only))
    k_with "my call" => (
      (with_reducible show wpAny _ _ (call (Value.ref 193) (vbe :: _)) _ _ _)
      k_dflt (refine' CallOk.useR (sought_ok hvb.opv (H.opIn hvb)) ?B ?F ?X ?N ?T ?hf ?hk ?hd ?hu ?P ?_; walk_at "RELT"; (case P => walk_at "INN"); k_whole)
      intro vwB' h' tk' F' N' po'; have hvB' := po'.ov hvb; k_sweep; (try dsimp only))
    k_with "my call" => (
      (with_reducible show wpAny _ _ (call (Value.ref 193) (vaf :: _)) _ _ _)
      k_dflt (refine' CallOk.useR (sought_ok hvf.opv (H.opIn hvf)) ?B ?F ?X ?N ?T ?hf ?hk ?hd ?hu ?P ?_; walk_at "RELT"; (case P => walk_at "INN"); k_whole)
      intro vwA' h' tk' F' N' po'; have hvA' := po'.ov hvf; k_sweep; (try dsimp only))
    k_with "my call" => (
      (with_reducible show wpAny _ _ (call (Value.ref 104) _) _ _ _)
      k_dflt (refine' CallOk.useR (lone_ok H.item) ?B ?F ?X ?N ?T ?hf ?hk ?hd ?hu ?P ?_; walk_at "RELT"; (case P => walk_at "INN"); k_whole)
      intro vz' h' tk' F' N' po'; obtain ⟨bq', tq', eq', hz'⟩ := BV.el po'; subst eq'; k_sweep; (try dsimp only))
    k_with "my call" => (
      (with_reducible show wpAny _ _ (call (Value.ref 186) _) _ _ _)
      k_dflt (refine' CallOk.useR (replaced_in1_ok hz' lo hvw' hy' hyl hvB' hvA') ?B ?F ?X ?N ?T ?hf ?hk ?hd ?hu ?P ?_; walk_at "RELT"; (case P => walk_at "INN"); k_whole)
      intro r' h' tk' F' N' po'; obtain ⟨bz', tz', e1', hbz'⟩ := po'; subst e1'; k_sweep; (try dsimp only))
    k_with "my call" => (
      (with_reducible show wpAny _ _ (call (Value.ref fp) _) _ _ _)
      k_dflt (refine' CallOk.useW (others := (ff, Fd fc fod fo fs) :: (fp, Fd pc pod po ps) :: TL) (H.plant _ _) ?B ?F ?X ?N ?T ?hf ?hk ?hd ?hu ?P ?PR ?PO ?hap ?_; walk_at "RELT"; (case P => k_memK); (case PR => walk_at "INN"); (case PO => walk_at "INN"); (case hap => exact List.forall_mem_cons.mpr ⟨o1f, List.forall_mem_cons.mpr ⟨o1g, o2⟩⟩); k_whole)
      intro r' o' x' ox' h' tk' F' N' po'; obtain ⟨e1', ⟨n', e2'⟩, c', e3'⟩ := po'; subst e1' e2' e3'; k_sweep; (try dsimp only))
    k_with "pyIter ref" => k_dflt (
      (rename Fr _ _ _ _ => lF'); (rename News _ _ _ _ => lN');
      (with_unfolding_all refine' iter_tupTurns (lo := tupOf #[.ref r1] c1) (vs := [.ref r1]) (n := c1) (by rfl) lF' lN' (by k_mem) (by rfl) (by rfl) ?_);
      clear lF'; intro i' hI1; (have hI0 := hI1); (replace hI1 := allLt_of hI1; simp only [AllLt, and_true] at hI1))
    k_with "UnrEndW" => k_dflt (
      (rename News _ _ _ _ => nE');
      (refine unrEnd_tail [(_, tupOf #[.str (kdStr k) t2, _, _, _, _] _), (_, listOf #[_] _), (st, tupOf #[.str (Str.ofString "replace") ts, .ref it, .ref tu] c0), (tu, tupOf #[.ref r1] c1), (hx, instObj 93 hdd), (hdd, haObj w.params u1 u2 u3 u4 u5 u6 u7 (.ref ff) (.ref fp)), (pl, listOf #[] n), (ff, Fd fc fod fo fs), (fp, Fd pc pod po ps)] TL (by assumption) nE' (by k_allIn) (by k_allIn) (by (intro p hp; k_ownIn)) (by ktu_offL) (tail_one hI1.2.2.2.2.2.2.2.2.2 (Nat.le_refl _)) ?_);
      (refine ⟨by k_subL, ?_⟩);
      (simp only [List.cons_append, List.nil_append]))
    intro dp un gd env outer A₀ base h₀ L m s Q E B F X N T hfr hk hd hu hret
    cell_step
    k_steps
    exact hret _ _ _ _ (by k_asm) (by assumption) (Stays.back (by assumption) (by assumption) (by assumption)) ⟨_, _, _, _, _, _, rfl, hbz', rfl⟩
  case F9 =>
    intros h9
    k_with_none
    conv at h9 => skip
    conv at h9 => zeta
    exact @ofTag _ _ (tag_triv : type_of% h9)))
end
end SRepW
section SRepW2
section
variable {prog : Program} {w : World} {p : Program} {loose : List Str} {mean : ExcName → Option Value} {mg mb : Str → Option Value}
set_option maxRecDepth 100000 in
set_option maxHeartbeats 8000000 in
theorem replace_with2_ok {st tu r1 r2 hx hdd ff fp it pl : Addr} {n c0 c1 : Nat} {ts : Tok} {u1 u2 u3 u4 u5 u6 u7 : Tok} {fo po : FuncData} {fc pc : Value} {fod pod : Option Addr} {fs ps : Array (Option Value)} {os : Oct} {TL : Led} {row row2 : RowS} {robj robj2 : Obj}
    (lo : os.length ≤ 64) (H : HandsOk prog w p loose mean mg mb ff fp it pl (Fd fc fod fo fs) (Fd pc pod po ps) n os TL) (hr : RowOk TL row robj) (hr2 : RowOk TL row2 robj2)
    (o1 : OffN pl [(st, robj), (tu, robj), (r1, robj), (r2, robj), (hx, robj), (hdd, robj), (ff, robj), (fp, robj)]) (o2 : ∀ q ∈ TL, q.1 ≠ pl) :
    CallOk prog w p loose mean mg mb 8 400 (.ref 207) [.ref st, .ref hx] ((st, tupOf #[.str (Str.ofString "replace") ts, .ref it, .ref tu] c0) :: (tu, tupOf #[.ref r1, .ref r2] c1) :: (r1, robj) :: (r2, robj2) :: (hx, instObj 93 hdd) :: (hdd, haObj w.params u1 u2 u3 u4 u5 u6 u7 (.ref ff) (.ref fp)) :: (pl, listOf #[] n) :: (ff, Fd fc fod fo fs) :: (fp, Fd pc pod po ps) :: TL)
      (fun r led => ∃ t x n' c z tz, r = .str (Str.ofString "") t ∧ KBw.bInts z = repl2 os row row2 ∧ led = (pl, listOf #[.ref x] n') :: (x, tupOf #[.ref it, .bytes z tz] c) :: (ff, Fd fc fod fo fs) :: (fp, Fd pc pod po ps) :: TL) :=
  @ofTag _ _ (by exact tag_triv : Tag (by
  k_with_none
  w_top off
  k_with "ne9" => (first | exact ne_Nat | exact ne_Heap | exact ne_Value | exact ne_Str | exact ne_Int | exact ne_Env | exact ne_Shared | exact ne_Around | exact ne_Program | exact ne_World | exact ne_List | exact ne_Option | exact ne_Arr | exact ne_Obj | exact ne_FuncData | exact ne_prod ne_Nat ne_Obj | exact ne_fun ne_Prop | exact ne_fun (ne_fun ne_Prop) | exact ne_fun ne_Option | exact ⟨Kd.chars⟩ | exact ⟨Opd.zero⟩ | (refine ⟨?_⟩; exact default) | (refine ⟨?_⟩; constructor <;> (first | exact default | exact Kd.chars | exact Opd.zero | exact tupOf #[] 0)))
  revert prog w p loose mean mg mb st tu r1 r2 hx hdd ff fp it pl n c0 c1 ts u1 u2 u3 u4 u5 u6 u7 fo po fc pc fod pod fs ps os TL row row2 robj robj2 lo H hr hr2 o1 o2
  refine no_implicit_lambda% ((?F9 : @Tag ?T9 (?prf9 : ?T9) → ?T9) tag_triv)
  case prf9 =>
    intro prog w p loose mean mg mb st tu r1 r2 hx hdd ff fp it pl n c0 c1 ts u1 u2 u3 u4 u5 u6 u7 fo po fc pc fod pod fs ps os TL row row2 robj robj2 lo H hr hr2 o1 o2
    obtain @⟨k, oo, be, af, opb, va, vbe, vaf, b1, ob, t2, c, hva, hob, hmb, hvb, hvf, hkc, hyl⟩ := hr
    obtain @⟨k2, oo2, be2, af2, opb2, va2, vbe2, vaf2, b2, ob2, s2, c2, hva2, hob2, hmb2, hvb2, hvf2, hkc2, hyl2⟩ := hr2
    simp only [OffN, and_true] at o1
    obtain ⟨o1a, o1b, o1c, o1h, o1d, o1e, o1f, o1g⟩ := o1
    k_with_none
    k_with "ne9" => (first | exact ne_Nat | exact ne_Heap | exact ne_Value | exact ne_Str | exact ne_Int | exact ne_Env | exact ne_Shared | exact ne_Around | exact ne_Program | exact ne_World | exact ne_List | exact ne_Option | exact ne_Arr | exact ne_Obj | exact ne_FuncData | exact ne_prod ne_Nat ne_Obj | exact ne_fun ne_Prop | exact ne_fun (ne_fun ne_Prop) | exact ne_fun ne_Option | exact ⟨Kd.chars⟩ | exact ⟨Opd.zero⟩ | (refine ⟨?_⟩; exact default) | (refine ⟨?_⟩; constructor <;> (first | exact default | exact Kd.chars | exact Opd.zero | exact tupOf #[] 0)))
    k_with "k_lt_skip" => skip
    k_with "k_all" => (first | (with_reducible assumption) | exact all_ne (by with_reducible assumption) (by intro q hq; k_ownIn))
    k_with "k_ne" => (first | exact ne_l (by with_reducible assumption) (by k_memK) | exact Ne.symm (ne_l (by with_reducible assumption) (by k_memK)) | exact ne_l1 (by with_reducible assumption) (by k_memK) | exact ne_l2 (by with_reducible assumption) (by k_memK) | exact ne_l3 (by with_reducible assumption) (by k_memK) | exact Ne.symm (ne_l1 (by with_reducible assumption) (by k_memK)) | exact Ne.symm (ne_l2 (by with_reducible assumption) (by k_memK)))
    k_with "room" => (first | exact rm0 (by with_reducible assumption) | exact rm1 (by with_reducible assumption) (by decide) | exact rm2 (by with_reducible assumption) (by decide) | exact rm3 (by with_reducible assumption) (by decide))
    k_with "units" => (first | exact rm0 (by with_reducible assumption) | exact rm1 (by with_reducible assumption) (by decide) | exact rm2 (by with_reducible assumption) (by decide) | exact rm3 (by with_reducible assumption) (by decide))
    k_with "ktu_obj" => (refine AllObj.cons ?_; intro o' hc'; (try dsimp only at hc'))
    k_with "ItemsRest" => (first | ((with_unfolding_all refine ItemsRest.val ?_); intro h' tk' F'; ktu_objs) | ((with_unfolding_all refine ItemsRest.pair ?_); intro T' t' h' tk' hT' F'; (try dsimp only at hT'); ktu_objs) | ((with_unfolding_all refine ItemsRest.tok ?_); intro t' h' tk' F'; (try dsimp only); ktu_objs) | ((with_unfolding_all refine ItemsRest.zero ?_); intro h' tk' F' N'))
    k_with "call ref" => (k_extra "my call")
    k_with "pyIter ref" => (k_extra "my loop")
    k_with "exec While Compare" => (k_dflt (k_extra "my while"))
    k_with "exec While BoolOp" => (k_dflt (k_extra "my while"))
    k_with "STEPC" => (refine wpAny_call ?_; k_dflt (refine' code_hereC ?k1 ?k2 ?k3 ?k4 ?k5 ?kA ?kF ?kK ?k6 ?k7 ?k8 ?k9 ?kB ?kD ?_ ?c2 ?c3 ?c4; (case kA => exact rfl); (case kF => assumption); (case kK => assumption); (case k1 => k_asm); (case k2 => k_asm); (case k3 => k_asm); (case k4 => k_asm); (case k5 => k_asm); (case k6 => k_is); (case k7 => k_is); (case k8 => ktr_room); (case k9 => exact BindsTo.of_eq rfl); (case kB => exact rfl); (case kD => decide +kernel); (case c2 => exact rfl); (case c3 => exact rfl); (case c4 => exact rfl); k_whole; intro g' L' h' tk' cells' S' FG' F' N' Y' B' X' T' l1; (try k_lt l1); k_cells Y'; (try simp only [List.cons_append, List.nil_append] at N'); (try dsimp only); (try k_lift B'); (try k_fold)))
    k_with "ite" => (k_closed; first | refine ite_pos (by decide +kernel) ?_ | refine ite_neg (by decide +kernel) ?_)
    k_with "RELR" => (
      (case B => k_asm); (case F => k_asm); (case X => k_asm); (case N => k_asm); (case T => k_asm); (case hf => exact rfl); (case hk => first | exact rfl | assumption); (case hd => ktr_room); (case hu => ktr_units);
      (case P => k_allIn);
      k_whole)
    k_with "getMethod ref" => (k_here; (with_reducible first | show wpAny _ _ (getMethod (Value.ref _) (Str.ofString "fetch") _) _ _ _ | show wpAny _ _ (getMethod (Value.ref _) (Str.ofString "plant") _) _ _ _); k_dflt (refine' kmu_own ?k1 ?k2 ?k3 ?k4 ?k5 ?_; (case k1 => k_asm); (case k2 => k_asm); (case k3 => k_inst); (case k4 => k_is); (case k5 => k_is); k_whole))
    k_with "callWith ref" => (k_here; k_dflt (refine' callWith_F ?k1 ?_; (case k1 => exact FnAt.of (by k_asm) (by k_mem)); k_whole))
    k_with "exec For Tuple Subscript" => (k_here; (rename Fr _ _ _ _ => lF'); (with_unfolding_all refine' For_turns lF' ?_; k_whole))
    k_with "RELT" => ((case B => k_asm); (case F => k_asm); (case X => k_asm); (case N => k_asm); (case T => k_asm); (case hf => exact rfl); (case hk => first | exact rfl | assumption); (case hd => ktr_room); (case hu => ktr_units))
    k_with "INN" => ((repeat (refine List.forall_mem_cons.mpr ?_; refine And.intro (by k_memK) ?_)); (first | exact List.forall_mem_nil _ | (intro q hq; k_ownIn)))
    k_with "my call" => (
      (with_reducible show wpAny _ _ (call (Value.ref 193) (va :: _)) _ _ _)
      k_dflt (refine' CallOk.useR (sought_ok hva.opv (H.opIn hva)) ?B ?F ?X ?N ?T ?hf ?hk ?hd ?hu ?P ?_; walk_at "RELT"; (case P => walk_at "INN"); k_whole)
      intro vw' h' tk' F' N' po'; have hvw' := po'.wv hkc hva; k_sweep; (try dsimp only))
    k_with "my call" => (
      (with_reducible show wpAny _ _ (call (Value.ref 200) (Value.ref b1 :: _)) _ _ _)
      k_dflt (refine' CallOk.useR (put_in_ok hvw' (H.by hob hmb hvw')) ?B ?F ?X ?N ?T ?hf ?hk ?hd ?hu ?P ?_; walk_at "RELT"; (case P => walk_at "INN"); k_whole)
      intro r' h' tk' F' N' po'; obtain ⟨bq', tq', eq', hy'⟩ := BV.el po'; subst eq'; k_sweep; (try dsimp only))
    k_with "my call" => (
      (with_reducible show wpAny _ _ (call (Value.ref 193) (vbe :: _)) _ _ _)
      k_dflt (refine' CallOk.useR (sought_ok hvb.opv (H.opIn hvb)) ?B ?F ?X ?N ?T ?hf ?hk ?hd ?hu ?P ?_; walk_at "RELT"; (case P => walk_at "INN"); k_whole)
      intro vwB' h' tk' F' N' po'; have hvB' := po'.ov hvb; k_sweep; (try dsimp only))
    k_with "my call" => (
      (with_reducible show wpAny _ _ (call (Value.ref 193) (vaf :: _)) _ _ _)
      k_dflt (refine' CallOk.useR (sought_ok hvf.opv (H.opIn hvf)) ?B ?F ?X ?N ?T ?hf ?hk ?hd ?hu ?P ?_; walk_at "RELT"; (case P => walk_at "INN"); k_whole)
      intro vwA' h' tk' F' N' po'; have hvA' := po'.ov hvf; k_sweep; (try dsimp only))
    k_with "my call" => (
      (with_reducible show wpAny _ _ (call (Value.ref 193) (va2 :: _)) _ _ _)
      k_dflt (refine' CallOk.useR (sought_ok hva2.opv (H.opIn hva2)) ?B ?F ?X ?N ?T ?hf ?hk ?hd ?hu ?P ?_; walk_at "RELT"; (case P => walk_at "INN"); k_whole)
      intro vwS' h' tk' F' N' po'; have hvwS' := po'.wv hkc2 hva2; k_sweep; (try dsimp only))
    k_with "my call" => (
      (with_reducible show wpAny _ _ (call (Value.ref 200) (Value.ref b2 :: _)) _ _ _)
      k_dflt (refine' CallOk.useR (put_in_ok hvwS' (H.by hob2 hmb2 hvwS')) ?B ?F ?X ?N ?T ?hf ?hk ?hd ?hu ?P ?_; walk_at "RELT"; (case P => walk_at "INN"); k_whole)
      intro r' h' tk' F' N' po'; obtain ⟨bq', tq', eq', hyS'⟩ := BV.el po'; subst eq'; k_sweep; (try dsimp only))
    k_with "my call" => (
      (with_reducible show wpAny _ _ (call (Value.ref 193) (vbe2 :: _)) _ _ _)
      k_dflt (refine' CallOk.useR (sought_ok hvb2.opv (H.opIn hvb2)) ?B ?F ?X ?N ?T ?hf ?hk ?hd ?hu ?P ?_; walk_at "RELT"; (case P => walk_at "INN"); k_whole)
      intro vwBS' h' tk' F' N' po'; have hvBS' := po'.ov hvb2; k_sweep; (try dsimp only))
    k_with "my call" => (
      (with_reducible show wpAny _ _ (call (Value.ref 193) (vaf2 :: _)) _ _ _)
      k_dflt (refine' CallOk.useR (sought_ok hvf2.opv (H.opIn hvf2)) ?B ?F ?X ?N ?T ?hf ?hk ?hd ?hu ?P ?_; walk_at "RELT"; (case P => walk_at "INN"); k_whole)
      intro vwAS' h' tk' F' N' po'; have hvAS' := po'.ov hvf2; k_sweep; (try dsimp only))
    k_with "my call" => (
      (with_reducible show wpAny _ _ (call (Value.ref 104) _) _ _ _)
      k_dflt (refine' CallOk.useR (lone_ok H.item) ?B ?F ?X ?N ?T ?hf ?hk ?hd ?hu ?P ?_; walk_at "RELT"; (case P => walk_at "INN"); k_whole)
      intro vz' h' tk' F' N' po'; obtain ⟨bq', tq', eq', hz'⟩ := BV.el po'; subst eq'; k_sweep; (try dsimp only))
    k_with "my call" => (
      (with_reducible show wpAny _ _ (call (Value.ref 186) _) _ _ _)
      k_dflt (refine' CallOk.useR (replaced_in2_ok hz' lo hvw' hy' hyl hvB' hvA' hvwS' hyS' hyl2 hvBS' hvAS') ?B ?F ?X ?N ?T ?hf ?hk ?hd ?hu ?P ?_; walk_at "RELT"; (case P => walk_at "INN"); k_whole)
      intro r' h' tk' F' N' po'; obtain ⟨bz', tz', e1', hbz'⟩ := po'; subst e1'; k_sweep; (try dsimp only))
    k_with "my call" => (
      (with_reducible show wpAny _ _ (call (Value.ref fp) _) _ _ _)
      k_dflt (refine' CallOk.useW (others := (ff, Fd fc fod fo fs) :: (fp, Fd pc pod po ps) :: TL) (H.plant _ _) ?B ?F ?X ?N ?T ?hf ?hk ?hd ?hu ?P ?PR ?PO ?hap ?_; walk_at "RELT"; (case P => k_memK); (case PR => walk_at "INN"); (case PO => walk_at "INN"); (case hap => exact List.forall_mem_cons.mpr ⟨o1f, List.forall_mem_cons.mpr ⟨o1g, o2⟩⟩); k_whole)
      intro r' o' x' ox' h' tk' F' N' po'; obtain ⟨e1', ⟨n', e2'⟩, c', e3'⟩ := po'; subst e1' e2' e3'; k_sweep; (try dsimp only))
    k_with "pyIter ref" => k_dflt (
      (rename Fr _ _ _ _ => lF'); (rename News _ _ _ _ => lN');
      (with_unfolding_all refine' iter_tupTurns (lo := tupOf #[.ref r1, .ref r2] c1) (vs := [.ref r1, .ref r2]) (n := c1) (by rfl) lF' lN' (by k_mem) (by rfl) (by rfl) ?_);
      clear lF'; intro i' hI1; (have hI0 := hI1); (replace hI1 := allLt_of hI1; simp only [AllLt, and_true] at hI1))
    k_with "UnrEndW" => k_dflt (
      (rename News _ _ _ _ => nE');
      (first
        | (refine unrEnd_tail [(_, tupOf #[.str (kdStr k) t2, _, _, _, _] _), (_, listOf #[_] _), (st, tupOf #[.str (Str.ofString "replace") ts, .ref it, .ref tu] c0), (tu, tupOf #[.ref r1, .ref r2] c1), (r2, tupOf #[.str (kdStr k2) s2, va2, .ref b2, vbe2, vaf2] c2), (hx, instObj 93 hdd), (hdd, haObj w.params u1 u2 u3 u4 u5 u6 u7 (.ref ff) (.ref fp)), (pl, listOf #[] n), (ff, Fd fc fod fo fs), (fp, Fd pc pod po ps)] TL (by assumption) nE' (by k_allIn) (by k_allIn) (by (intro p hp; k_ownIn)) (by ktu_offL) (tail_one hI1.2.2.2.2.2.2.2.2.2.2 (Nat.le_refl _)) ?_)
        | (refine unrEnd_tail [(_, tupOf #[.str (kdStr k2) s2, _, _, _, _] _), (_, tupOf #[.str (kdStr k) t2, _, _, _, _] _), (_, listOf #[_, _] _), (st, tupOf #[.str (Str.ofString "replace") ts, .ref it, .ref tu] c0), (tu, tupOf #[.ref r1, .ref r2] c1), (hx, instObj 93 hdd), (hdd, haObj w.params u1 u2 u3 u4 u5 u6 u7 (.ref ff) (.ref fp)), (pl, listOf #[] n), (ff, Fd fc fod fo fs), (fp, Fd pc pod po ps)] TL (by assumption) nE' (by k_allIn) (by k_allIn) (by (intro p hp; k_ownIn)) (by ktu_offL) (tail_one hI1.2.2.2.2.2.2.2.2.2.2 (Nat.le_refl _)) ?_));
      (refine ⟨by k_subL, ?_⟩);
      (simp only [List.cons_append, List.nil_append]))
    intro dp un gd env outer A₀ base h₀ L m s Q E B F X N T hfr hk hd hu hret
    cell_step
    k_steps
    exact hret _ _ _ _ (by k_asm) (by assumption) (Stays.back (by assumption) (by assumption) (by assumption)) ⟨_, _, _, _, _, _, rfl, hbz', rfl⟩
  case F9 =>
    intros h9
    k_with_none
    conv at h9 => skip
    conv at h9 => zeta
    exact @ofTag _ _ (tag_triv : type_of% h9)))
end
end SRepW2
section SLamUse
theorem ne_lx {a d x : Nat} {o : Obj} {l : Led} (h2 : d < x) (h : ∀ p ∈ l, p.1 < d) (hm : ((a : Addr), o) ∈ l) : a ≠ x := Nat.ne_of_lt (Nat.lt_trans (h _ hm) h2)
theorem all_ne1 {b : Nat} {R l : Led} (h : ∀ p ∈ l, p.1 < b) (hs : ∀ q ∈ R, q ∈ l) : ∀ q ∈ R, q.1 ≠ b + 1 := fun q hq => Nat.ne_of_lt (Nat.lt_succ_of_lt (h q (hs q hq)))
theorem all_ne2 {b : Nat} {R l : Led} (h : ∀ p ∈ l, p.1 < b) (hs : ∀ q ∈ R, q ∈ l) : ∀ q ∈ R, q.1 ≠ b + 1 + 1 := fun q hq => Nat.ne_of_lt (Nat.lt_succ_of_lt (Nat.lt_succ_of_lt (h q (hs q hq))))
theorem all_ne3 {b : Nat} {R l : Led} (h : ∀ p ∈ l, p.1 < b) (hs : ∀ q ∈ R, q ∈ l) : ∀ q ∈ R, q.1 ≠ b + 1 + 1 + 1 := fun q hq => Nat.ne_of_lt (Nat.lt_succ_of_lt (Nat.lt_succ_of_lt (Nat.lt_succ_of_lt (h q (hs q hq)))))
section
variable {prog : Program} {w : World} {p : Program} {loose : List Str} {mean : ExcName → Option Value} {mg mb : Str → Option Value}
theorem repl1_use {st tu r1 hx hdd ff fp it pl pr : Addr} {n c0 c1 : Nat} {ts : Tok} {u1 u2 u3 u4 u5 u6 u7 : Tok} {fo po : FuncData} {fc pc : Value} {fod pod : Option Addr} {fs ps : Array (Option Value)} {os : Oct} {TL : Led} {row : RowS} {robj opr : Obj}
    {dp un : Nat} {gd : Option (List Code)} {env : Env} {outer : List Env} {A₀ : Around} {base h₀ : Heap} {L : Addr} {m : Str → Option Value} {s : Shared} {Q E : Value → Shared → Prop}
    (B : Below A₀ base outer h₀) (F : Fr h₀ L s.heap m) (X : (hd.heap_39 w.params).In h₀)
    (N : News h₀ L s.heap ((st, tupOf #[.str (Str.ofString "replace") ts, .ref it, .ref tu] c0) :: (tu, tupOf #[.ref r1] c1) :: (hx, instObj 93 hdd) :: (hdd, haObj w.params u1 u2 u3 u4 u5 u6 u7 (.ref ff) (.ref fp)) :: (fp, Fd pc pod po ps) :: (ff, Fd fc fod fo fs) :: (pr, opr) :: (pl, listOf #[] n) :: TL))
    (T : Top p loose mean mg mb h₀) (hf : env.frame = some L) (hk : env.scope.kind = .function) (hd : dp + 8 < recursionLimit) (hu : un + 400 < cLine)
    (lo : os.length ≤ 64) (H : HandsOk prog w p loose mean mg mb ff fp it pl (Fd fc fod fo fs) (Fd pc pod po ps) n os TL) (hr : RowOk TL row robj) (hm : (r1, robj) ∈ TL)
    (o1 : OffN pl [(st, robj), (tu, robj), (r1, robj), (hx, robj), (hdd, robj), (ff, robj), (fp, robj)]) (o2 : ∀ q ∈ TL, q.1 ≠ pl)
    (h : ∀ t x n' c z tz h' tk', Fr h₀ L h' m → KBw.bInts z = repl1 os row → News h₀ L h' ((pl, listOf #[.ref x] n') :: (x, tupOf #[.ref it, .bytes z tz] c) :: TL) → Q (.str (Str.ofString "") t) { s with heap := h', toks := tk' }) :
    wpAny (model prog w) (TopA dp un gd env outer) (call (.ref 207) [.ref st, .ref hx]) Q E s := by
  refine CallOk.useP (replace_with1_ok (c0 := c0) (c1 := c1) (ts := ts) (u1 := u1) (u2 := u2) (u3 := u3) (u4 := u4) (u5 := u5) (u6 := u6) (u7 := u7) lo H hr o1 o2) B F X N T hf hk hd hu (fun q hq => ?_) fun r led h' tk' F' N' po => ?_
  · revert q hq
    (repeat (refine List.forall_mem_cons.mpr ?_; refine And.intro (by first | k_memK | (have hm' := hm; k_ownIn)) ?_))
    intro q hq; k_ownIn
  · obtain ⟨t, x, n', c, z, tz, rfl, hz, rfl⟩ := po
    refine h t x n' c z tz h' tk' F' hz (News.sub N' fun q hq => ?_)
    rcases List.mem_cons.mp hq with rfl | hq
    · exact .head _
    rcases List.mem_cons.mp hq with rfl | hq
    · exact .tail _ (.head _)
    · first | assumption | k_ownIn | exact .tail _ (.tail _ hq)
theorem repl2_use {st tu r1 r2 hx hdd ff fp it pl pr : Addr} {n c0 c1 : Nat} {ts : Tok} {u1 u2 u3 u4 u5 u6 u7 : Tok} {fo po : FuncData} {fc pc : Value} {fod pod : Option Addr} {fs ps : Array (Option Value)} {os : Oct} {TL : Led} {row row2 : RowS} {robj robj2 opr : Obj}
    {dp un : Nat} {gd : Option (List Code)} {env : Env} {outer : List Env} {A₀ : Around} {base h₀ : Heap} {L : Addr} {m : Str → Option Value} {s : Shared} {Q E : Value → Shared → Prop}
    (B : Below A₀ base outer h₀) (F : Fr h₀ L s.heap m) (X : (hd.heap_39 w.params).In h₀)
    (N : News h₀ L s.heap ((st, tupOf #[.str (Str.ofString "replace") ts, .ref it, .ref tu] c0) :: (tu, tupOf #[.ref r1, .ref r2] c1) :: (hx, instObj 93 hdd) :: (hdd, haObj w.params u1 u2 u3 u4 u5 u6 u7 (.ref ff) (.ref fp)) :: (fp, Fd pc pod po ps) :: (ff, Fd fc fod fo fs) :: (pr, opr) :: (pl, listOf #[] n) :: TL))
    (T : Top p loose mean mg mb h₀) (hf : env.frame = some L) (hk : env.scope.kind = .function) (hd : dp + 8 < recursionLimit) (hu : un + 400 < cLine)
    (lo : os.length ≤ 64) (H : HandsOk prog w p loose mean mg mb ff fp it pl (Fd fc fod fo fs) (Fd pc pod po ps) n os TL) (hr : RowOk TL row robj) (hr2 : RowOk TL row2 robj2) (hm : (r1, robj) ∈ TL) (hm2 : (r2, robj2) ∈ TL)
    (o1 : OffN pl [(st, robj), (tu, robj), (r1, robj), (r2, robj), (hx, robj), (hdd, robj), (ff, robj), (fp, robj)]) (o2 : ∀ q ∈ TL, q.1 ≠ pl)
    (h : ∀ t x n' c z tz h' tk', Fr h₀ L h' m → KBw.bInts z = repl2 os row row2 → News h₀ L h' ((pl, listOf #[.ref x] n') :: (x, tupOf #[.ref it, .bytes z tz] c) :: TL) → Q (.str (Str.ofString "") t) { s with heap := h', toks := tk' }) :
    wpAny (model prog w) (TopA dp un gd env outer) (call (.ref 207) [.ref st, .ref hx]) Q E s := by
  refine CallOk.useP (replace_with2_ok (c0 := c0) (c1 := c1) (ts := ts) (u1 := u1) (u2 := u2) (u3 := u3) (u4 := u4) (u5 := u5) (u6 := u6) (u7 := u7) lo H hr hr2 o1 o2) B F X N T hf hk hd hu (fun q hq => ?_) fun r led h' tk' F' N' po => ?_
  · revert q hq
    (repeat (refine List.forall_mem_cons.mpr ?_; refine And.intro (by first | k_memK | (have hm' := hm; k_ownIn)) ?_))
    intro q hq; k_ownIn
  · obtain ⟨t, x, n', c, z, tz, rfl, hz, rfl⟩ := po
    refine h t x n' c z tz h' tk' F' hz (News.sub N' fun q hq => ?_)
    rcases List.mem_cons.mp hq with rfl | hq
    · exact .head _
    rcases List.mem_cons.mp hq with rfl | hq
    · exact .tail _ (.head _)
    · first | assumption | k_ownIn | exact .tail _ (.tail _ hq)
end
end SLamUse
section SLawRep1
section
variable {prog : Program} {w : World} {p : Program} {loose : List Str} {mean : ExcName → Option Value} {mg mb : Str → Option Value}
set_option maxRecDepth 100000 in
set_option maxHeartbeats 8000000 in
theorem law_replaced1_ok {ra r1 cA cB : Addr} {n0 : Nat} {o : Array UInt8} {os : Oct} {t1 : Tok} {ocA ocB robj : Obj} {row : RowS} {OL : Led} (ho : KBw.bInts o = os) (lo : os.length ≤ 64) (hA : LamC ocA) (hB : LamC ocB) (hr : RowOk OL row robj)
    {dp un : Nat} {gd : Option (List Code)} {env : Env} {outer : List Env} {A₀ : Around} {base h₀ : Heap} {L : Addr} {m : Str → Option Value} {s : Shared} {Q E : Value → Shared → Prop}
    (B : Below A₀ base outer h₀) (F : Fr h₀ L s.heap m) (X : (hd.heap_39 w.params).In h₀) (N : News h₀ L s.heap ((235, lamTab cA cB) :: (cA, ocA) :: (cB, ocB) :: (ra, listOf #[.ref r1] n0) :: (r1, robj) :: OL)) (T : Top p loose mean mg mb h₀) (hfr : env.frame = some L) (hk : env.scope.kind = .function) (hd : dp + 12 < recursionLimit) (hu : un + 500 < cLine) (hc : CodeHd base 239 235)
    (hret : ∀ r led h' tk', Fr h₀ L h' m → News h₀ L h' led → Back ((235, lamTab cA cB) :: (cA, ocA) :: (cB, ocB) :: (ra, listOf #[.ref r1] n0) :: (r1, robj) :: OL) led s.heap h' → (led = ((235, lamTab cA cB) :: (cA, ocA) :: (cB, ocB) :: (ra, listOf #[.ref r1] n0) :: (r1, robj) :: OL) ∧ BV (repl1 os row) r) → Q r { s with heap := h', toks := tk' }) :
    wpAny (model prog w) (TopA dp un gd env outer) (call (.ref 240) [.bytes o t1, .ref ra]) Q E s :=
  @ofTag _ _ (by exact tag_triv : Tag (by
  k_with_none
  w_top off
  k_with "ne9" => (first | exact ne_Nat | exact ne_Heap | exact ne_Value | exact ne_Str | exact ne_Int | exact ne_Env | exact ne_Shared | exact ne_Around | exact ne_Program | exact ne_World | exact ne_List | exact ne_Option | exact ne_Arr | exact ne_Obj | exact ne_FuncData | exact ne_prod ne_Nat ne_Obj | exact ne_fun ne_Prop | exact ne_fun (ne_fun ne_Prop) | exact ne_fun ne_Option | exact ⟨Kd.chars⟩ | exact ⟨Opd.zero⟩ | (refine ⟨?_⟩; exact default) | (refine ⟨?_⟩; constructor <;> (first | exact default | exact Kd.chars | exact Opd.zero | exact tupOf #[] 0)))
  revert prog w p loose mean mg mb ra r1 cA cB n0 o os t1 ocA ocB robj row OL ho lo hA hB hr dp un gd env outer A₀ base h₀ L m s Q E B F X N T hfr hk hd hu hc hret
  refine no_implicit_lambda% ((?F9 : @Tag ?T9 (?prf9 : ?T9) → ?T9) tag_triv)
  case prf9 =>
    intro prog w p loose mean mg mb ra r1 cA cB n0 o os t1 ocA ocB robj row OL ho lo hA hB hr dp un gd env outer A₀ base h₀ L m s Q E B F X N T hfr hk hd hu hc hret
    k_with_none
    k_with "ne9" => (first | exact ne_Nat | exact ne_Heap | exact ne_Value | exact ne_Str | exact ne_Int | exact ne_Env | exact ne_Shared | exact ne_Around | exact ne_Program | exact ne_World | exact ne_List | exact ne_Option | exact ne_Arr | exact ne_Obj | exact ne_FuncData | exact ne_prod ne_Nat ne_Obj | exact ne_fun ne_Prop | exact ne_fun (ne_fun ne_Prop) | exact ne_fun ne_Option | exact ⟨Kd.chars⟩ | exact ⟨Opd.zero⟩ | (refine ⟨?_⟩; exact default) | (refine ⟨?_⟩; constructor <;> (first | exact default | exact Kd.chars | exact Opd.zero | exact tupOf #[] 0)))
    k_with "k_lt_skip" => skip
    k_with "k_all" => (first | (with_reducible assumption) | exact all_ne (by with_reducible assumption) (by intro q hq; k_ownIn))
    k_with "k_ne" => (first | exact ne_l (by with_reducible assumption) (by k_memK) | exact Ne.symm (ne_l (by with_reducible assumption) (by k_memK)) | exact ne_l1 (by with_reducible assumption) (by k_memK) | exact ne_l2 (by with_reducible assumption) (by k_memK) | exact ne_l3 (by with_reducible assumption) (by k_memK) | exact Ne.symm (ne_l1 (by with_reducible assumption) (by k_memK)) | exact Ne.symm (ne_l2 (by with_reducible assumption) (by k_memK)))
    k_with "room" => (first | exact rm0 (by with_reducible assumption) | exact rm1 (by with_reducible assumption) (by decide) | exact rm2 (by with_reducible assumption) (by decide) | exact rm3 (by with_reducible assumption) (by decide))
    k_with "units" => (first | exact rm0 (by with_reducible assumption) | exact rm1 (by with_reducible assumption) (by decide) | exact rm2 (by with_reducible assumption) (by decide) | exact rm3 (by with_reducible assumption) (by decide))
    k_with "ktu_obj" => (refine AllObj.cons ?_; intro o' hc'; (try dsimp only at hc'))
    k_with "ItemsRest" => (first | ((with_unfolding_all refine ItemsRest.val ?_); intro h' tk' F'; ktu_objs) | ((with_unfolding_all refine ItemsRest.pair ?_); intro T' t' h' tk' hT' F'; (try dsimp only at hT'); ktu_objs) | ((with_unfolding_all refine ItemsRest.tok ?_); intro t' h' tk' F'; (try dsimp only); ktu_objs) | ((with_unfolding_all refine ItemsRest.zero ?_); intro h' tk' F' N'))
    k_with "call ref" => (k_extra "my call")
    k_with "pyIter ref" => (k_extra "my loop")
    k_with "exec While Compare" => (k_dflt (k_extra "my while"))
    k_with "exec While BoolOp" => (k_dflt (k_extra "my while"))
    k_with "STEPC" => (refine wpAny_call ?_; k_dflt (refine' code_hereC ?k1 ?k2 ?k3 ?k4 ?k5 ?kA ?kF ?kK ?k6 ?k7 ?k8 ?k9 ?kB ?kD ?_ ?c2 ?c3 ?c4; (case kA => exact rfl); (case kF => assumption); (case kK => assumption); (case k1 => k_asm); (case k2 => k_asm); (case k3 => k_asm); (case k4 => k_asm); (case k5 => k_asm); (case k6 => k_is); (case k7 => k_is); (case k8 => ktr_room); (case k9 => exact BindsTo.of_eq rfl); (case kB => exact rfl); (case kD => decide +kernel); (case c2 => exact rfl); (case c3 => exact rfl); (case c4 => exact rfl); k_whole; intro g' L' h' tk' cells' S' FG' F' N' Y' B' X' T' l1; (try k_lt l1); k_cells Y'; (try simp only [List.cons_append, List.nil_append] at N'); (try dsimp only); (try k_lift B'); (try k_fold)))
    k_with "ite" => (k_closed; first | refine ite_pos (by decide +kernel) ?_ | refine ite_neg (by decide +kernel) ?_)
    k_with "RELR" => (
      (case B => k_asm); (case F => k_asm); (case X => k_asm); (case N => k_asm); (case T => k_asm); (case hf => exact rfl); (case hk => first | exact rfl | assumption); (case hd => ktr_room); (case hu => ktr_units);
      (case P => k_allIn);
      k_whole)
    k_with "k_ne" => (first | exact ne_l (by assumption) (by k_memK) | exact Ne.symm (ne_l (by assumption) (by k_memK)) | exact Nat.ne_of_lt (by assumption) | exact Nat.ne_of_gt (by assumption) | exact ne_lx (by assumption) (by assumption) (by k_memK) | exact Ne.symm (ne_lx (by assumption) (by assumption) (by k_memK)) | exact ne_l1 (by assumption) (by k_memK) | exact ne_l2 (by assumption) (by k_memK) | exact ne_l3 (by assumption) (by k_memK) | exact Ne.symm (ne_l1 (by assumption) (by k_memK)) | exact Ne.symm (ne_l2 (by assumption) (by k_memK)) | exact Ne.symm (ne_l3 (by assumption) (by k_memK)))
    k_with "exec For Tuple Subscript" => (k_here; (rename Fr _ _ _ _ => lF'); (with_unfolding_all refine' For_turns lF' ?_; k_whole))
    k_with "compareOp Eq ref ref" => (k_dflt (k_extra "my eq"))
    k_with "callWith ref" => (k_here; k_dflt (refine' callWith_K ?k1 ?k2 ?_; (case k1 => k_asm); (case k2 => k_is); k_whole))
    k_with "RELT" => ((case B => k_asm); (case F => k_asm); (case X => k_asm); (case N => k_asm); (case T => k_asm); (case hf => exact rfl); (case hk => first | exact rfl | assumption); (case hd => ktr_room); (case hu => ktr_units))
    k_with "INN" => ((repeat (refine List.forall_mem_cons.mpr ?_; refine And.intro (by k_memK) ?_)); (first | exact List.forall_mem_nil _ | (intro q hq; k_ownIn)))
    k_with "k_all" => (first | (with_reducible assumption) | exact all_ne (by assumption) (by intro q hq; k_ownIn) | exact all_ne1 (by assumption) (by intro q hq; k_ownIn) | exact all_ne2 (by assumption) (by intro q hq; k_ownIn) | exact all_ne3 (by assumption) (by intro q hq; k_ownIn))
    k_with "subscriptTail Name Constant ref int" => (k_here; walk_at "subscriptTail")
    k_with "k_mem" => (assumption)
    k_with "LAMSTEP" => (refine wpAny_call ?_; k_dflt (refine' lam_here ?k1 ?k2 ?k3 ?k4 ?k5 ?kA ?kF ?kK ?k6 ?k7 ?k8 ?k9 ?kB ?_ ?c2 ?c3 ?c4 ?c5; (case kA => exact rfl); (case kF => assumption); (case kK => assumption); (case k1 => k_asm); (case k2 => k_asm); (case k3 => k_asm); (case k4 => k_asm); (case k5 => k_asm); (case k6 => k_mem); (case k7 => exact codeRec_news (by k_asm) (by k_mem) (by assumption) (by assumption)); (case k8 => ktr_room); (case k9 => exact rfl); (case c5 => decide); (case kB => exact locs rfl); (case c2 => exact rfl); (case c3 => exact rfl); (case c4 => exact rfl); k_whole; intro g' L' h' S' FG' F' N' B' X' T' l1; (try k_lt l1); (try dsimp only); (try k_lift B'); (try k_fold)))
    obtain ⟨vsA, tA, hA1, hA2⟩ := hA.h
    obtain ⟨vsB, tB, hB1, hB2⟩ := hB.h
    k_with "my eq" => (refine' eq_op_item hop (News.get (by k_asm) (by k_mem)) (News.isTup (by k_asm) (by k_mem)) ?hu9 ?_; (case hu9 => ktr_units))
    k_with "my call" => (
      (with_reducible show wpAny _ _ (call (Value.ref 233) _) _ _ _)
      k_dflt (refine' CallOk.useR (constant_ok hop hsz) ?B ?F ?X ?N ?T ?hf ?hk ?hd ?hu ?P ?_; walk_at "RELT"; (case P => exact List.forall_mem_cons.mpr ⟨by k_mem, List.forall_mem_nil _⟩); k_whole)
      intro r' h' tk' F' N' po'; obtain ⟨bc', tc', e1', hbc'⟩ := po'; subst e1'; k_sweep; (try dsimp only))
    k_with "my call" => (
      (with_reducible show wpAny _ _ (call (Value.ref 207) _) _ _ _)
      (rename News _ _ _ _ => lN')
      k_dflt (refine' repl1_use (os := os) (row := row) (robj := robj) ?B ?F ?X lN' ?T ?hf ?hk ?hd ?hu lo ?H ?hr ?hm ?o1 ?o2 ?_; (case B => k_asm); (case F => k_asm); (case X => k_asm); (case T => k_asm); (case hf => exact rfl); (case hk => first | exact rfl | assumption); (case hd => ktr_room); (case hu => ktr_units); (case hr => exact hr.mono (by intro q hq; k_ownIn)); (case hm => k_memK); (case o1 => exact ⟨by k_ne, by k_ne, by k_ne, by k_ne, by k_ne, by k_ne, by k_ne, True.intro⟩); (case o2 => k_all); (case' H => refine Held.on ?_))
      all_goals (try (intro ts' xp' n' c' z' tz' h' tk' F' hz' N'; (try dsimp only))))
    walk_at "STEPC"
    k_steps
    · refine Held.mk ⟨?_, ?_, ?_⟩
      · intro op a obj size t hop hmem hsz
        intro dp2 un2 gd2 env2 outer2 A₂ base2 h₂ L2 m2 s2 Q2 E2 B2 F2 X2 N2 T2 hfr2 hk2 hd2 hu2 hret2
        have hm2 := News.mem2 N2 hmem
        walk_at "LAMSTEP"
        k_steps
        exact hret2 _ _ _ _ (by k_asm) (by assumption) (Stays.back (by assumption) (by assumption) (by assumption)) ⟨rfl, .mk hbc'⟩
      · intro t
        intro dp2 un2 gd2 env2 outer2 A₂ base2 h₂ L2 m2 s2 Q2 E2 B2 F2 X2 N2 T2 hfr2 hk2 hd2 hu2 hret2
        walk_at "LAMSTEP"
        k_steps
        exact hret2 _ _ _ _ (by k_asm) (by assumption) (Stays.back (by assumption) (by assumption) (by assumption)) ⟨rfl, .mk ho⟩
      · intro b t
        intro dp2 un2 gd2 env2 outer2 A₂ base2 h₂ L2 m2 s2 Q2 E2 B2 F2 X2 N2 T2 hfr2 hk2 hd2 hu2 hret2
        walk_at "LAMSTEP"
        k_steps
        refine' hret2 _ _ _ _ (by k_asm) (News.sub (by assumption) ?nw) (Back.sub (Stays.back (by assumption) (by assumption) (by assumption)) ?bk) ⟨_, _, _, ⟨rfl, ⟨_, rfl⟩, ⟨_, rfl⟩⟩, rfl⟩
        all_goals walk_at "INN"
    · refine hret _ ((235, lamTab cA cB) :: (cA, ocA) :: (cB, ocB) :: (ra, listOf #[.ref r1] n0) :: (r1, robj) :: OL) _ _ (by k_asm) (News.sub (by assumption) (by walk_at "INN")) (Back.sub (Stays.back (by assumption) (by assumption) (by assumption)) (by walk_at "INN")) ⟨rfl, .mk hz'⟩
  case F9 =>
    intros h9
    k_with_none
    conv at h9 => skip
    conv at h9 => zeta
    exact @ofTag _ _ (tag_triv : type_of% h9)))
end
end SLawRep1
section SLawRep2
section
variable {prog : Program} {w : World} {p : Program} {loose : List Str} {mean : ExcName → Option Value} {mg mb : Str → Option Value}
set_option maxRecDepth 100000 in
set_option maxHeartbeats 8000000 in
theorem law_replaced2_ok {ra r1 r2 cA cB : Addr} {n0 : Nat} {o : Array UInt8} {os : Oct} {t1 : Tok} {ocA ocB robj robj2 : Obj} {row row2 : RowS} {OL : Led} (ho : KBw.bInts o = os) (lo : os.length ≤ 64) (hA : LamC ocA) (hB : LamC ocB) (hr : RowOk OL row robj) (hr2 : RowOk OL row2 robj2)
    {dp un : Nat} {gd : Option (List Code)} {env : Env} {outer : List Env} {A₀ : Around} {base h₀ : Heap} {L : Addr} {m : Str → Option Value} {s : Shared} {Q E : Value → Shared → Prop}
    (B : Below A₀ base outer h₀) (F : Fr h₀ L s.heap m) (X : (hd.heap_39 w.params).In h₀) (N : News h₀ L s.heap ((235, lamTab cA cB) :: (cA, ocA) :: (cB, ocB) :: (ra, listOf #[.ref r1, .ref r2] n0) :: (r1, robj) :: (r2, robj2) :: OL)) (T : Top p loose mean mg mb h₀) (hfr : env.frame = some L) (hk : env.scope.kind = .function) (hd : dp + 12 < recursionLimit) (hu : un + 500 < cLine) (hc : CodeHd base 239 235)
    (hret : ∀ r led h' tk', Fr h₀ L h' m → News h₀ L h' led → Back ((235, lamTab cA cB) :: (cA, ocA) :: (cB, ocB) :: (ra, listOf #[.ref r1, .ref r2] n0) :: (r1, robj) :: (r2, robj2) :: OL) led s.heap h' → (led = ((235, lamTab cA cB) :: (cA, ocA) :: (cB, ocB) :: (ra, listOf #[.ref r1, .ref r2] n0) :: (r1, robj) :: (r2, robj2) :: OL) ∧ BV (repl2 os row row2) r) → Q r { s with heap := h', toks := tk' }) :
    wpAny (model prog w) (TopA dp un gd env outer) (call (.ref 240) [.bytes o t1, .ref ra]) Q E s :=
  @ofTag _ _ (by exact tag_triv : Tag (by
  k_with_none
  w_top off
  k_with "ne9" => (first | exact ne_Nat | exact ne_Heap | exact ne_Value | exact ne_Str | exact ne_Int | exact ne_Env | exact ne_Shared | exact ne_Around | exact ne_Program | exact ne_World | exact ne_List | exact ne_Option | exact ne_Arr | exact ne_Obj | exact ne_FuncData | exact ne_prod ne_Nat ne_Obj | exact ne_fun ne_Prop | exact ne_fun (ne_fun ne_Prop) | exact ne_fun ne_Option | exact ⟨Kd.chars⟩ | exact ⟨Opd.zero⟩ | (refine ⟨?_⟩; exact default) | (refine ⟨?_⟩; constructor <;> (first | exact default | exact Kd.chars | exact Opd.zero | exact tupOf #[] 0)))
  revert prog w p loose mean mg mb ra r1 r2 cA cB n0 o os t1 ocA ocB robj robj2 row row2 OL ho lo hA hB hr hr2 dp un gd env outer A₀ base h₀ L m s Q E B F X N T hfr hk hd hu hc hret
  refine no_implicit_lambda% ((?F9 : @Tag ?T9 (?prf9 : ?T9) → ?T9) tag_triv)
  case prf9 =>
    intro prog w p loose mean mg mb ra r1 r2 cA cB n0 o os t1 ocA ocB robj robj2 row row2 OL ho lo hA hB hr hr2 dp un gd env outer A₀ base h₀ L m s Q E B F X N T hfr hk hd hu hc hret
    k_with_none
    k_with "ne9" => (first | exact ne_Nat | exact ne_Heap | exact ne_Value | exact ne_Str | exact ne_Int | exact ne_Env | exact ne_Shared | exact ne_Around | exact ne_Program | exact ne_World | exact ne_List | exact ne_Option | exact ne_Arr | exact ne_Obj | exact ne_FuncData | exact ne_prod ne_Nat ne_Obj | exact ne_fun ne_Prop | exact ne_fun (ne_fun ne_Prop) | exact ne_fun ne_Option | exact ⟨Kd.chars⟩ | exact ⟨Opd.zero⟩ | (refine ⟨?_⟩; exact default) | (refine ⟨?_⟩; constructor <;> (first | exact default | exact Kd.chars | exact Opd.zero | exact tupOf #[] 0)))
    k_with "k_lt_skip" => skip
    k_with "k_all" => (first | (with_reducible assumption) | exact all_ne (by with_reducible assumption) (by intro q hq; k_ownIn))
    k_with "k_ne" => (first | exact ne_l (by with_reducible assumption) (by k_memK) | exact Ne.symm (ne_l (by with_reducible assumption) (by k_memK)) | exact ne_l1 (by with_reducible assumption) (by k_memK) | exact ne_l2 (by with_reducible assumption) (by k_memK) | exact ne_l3 (by with_reducible assumption) (by k_memK) | exact Ne.symm (ne_l1 (by with_reducible assumption) (by k_memK)) | exact Ne.symm (ne_l2 (by with_reducible assumption) (by k_memK)))
    k_with "room" => (first | exact rm0 (by with_reducible assumption) | exact rm1 (by with_reducible assumption) (by decide) | exact rm2 (by with_reducible assumption) (by decide) | exact rm3 (by with_reducible assumption) (by decide))
    k_with "units" => (first | exact rm0 (by with_reducible assumption) | exact rm1 (by with_reducible assumption) (by decide) | exact rm2 (by with_reducible assumption) (by decide) | exact rm3 (by with_reducible assumption) (by decide))
    k_with "ktu_obj" => (refine AllObj.cons ?_; intro o' hc'; (try dsimp only at hc'))
    k_with "ItemsRest" => (first | ((with_unfolding_all refine ItemsRest.val ?_); intro h' tk' F'; ktu_objs) | ((with_unfolding_all refine ItemsRest.pair ?_); intro T' t' h' tk' hT' F'; (try dsimp only at hT'); ktu_objs) | ((with_unfolding_all refine ItemsRest.tok ?_); intro t' h' tk' F'; (try dsimp only); ktu_objs) | ((with_unfolding_all refine ItemsRest.zero ?_); intro h' tk' F' N'))
    k_with "call ref" => (k_extra "my call")
    k_with "pyIter ref" => (k_extra "my loop")
    k_with "exec While Compare" => (k_dflt (k_extra "my while"))
    k_with "exec While BoolOp" => (k_dflt (k_extra "my while"))
    k_with "STEPC" => (refine wpAny_call ?_; k_dflt (refine' code_hereC ?k1 ?k2 ?k3 ?k4 ?k5 ?kA ?kF ?kK ?k6 ?k7 ?k8 ?k9 ?kB ?kD ?_ ?c2 ?c3 ?c4; (case kA => exact rfl); (case kF => assumption); (case kK => assumption); (case k1 => k_asm); (case k2 => k_asm); (case k3 => k_asm); (case k4 => k_asm); (case k5 => k_asm); (case k6 => k_is); (case k7 => k_is); (case k8 => ktr_room); (case k9 => exact BindsTo.of_eq rfl); (case kB => exact rfl); (case kD => decide +kernel); (case c2 => exact rfl); (case c3 => exact rfl); (case c4 => exact rfl); k_whole; intro g' L' h' tk' cells' S' FG' F' N' Y' B' X' T' l1; (try k_lt l1); k_cells Y'; (try simp only [List.cons_append, List.nil_append] at N'); (try dsimp only); (try k_lift B'); (try k_fold)))
    k_with "ite" => (k_closed; first | refine ite_pos (by decide +kernel) ?_ | refine ite_neg (by decide +kernel) ?_)
    k_with "RELR" => (
      (case B => k_asm); (case F => k_asm); (case X => k_asm); (case N => k_asm); (case T => k_asm); (case hf => exact rfl); (case hk => first | exact rfl | assumption); (case hd => ktr_room); (case hu => ktr_units);
      (case P => k_allIn);
      k_whole)
    k_with "k_ne" => (first | exact ne_l (by assumption) (by k_memK) | exact Ne.symm (ne_l (by assumption) (by k_memK)) | exact Nat.ne_of_lt (by assumption) | exact Nat.ne_of_gt (by assumption) | exact ne_lx (by assumption) (by assumption) (by k_memK) | exact Ne.symm (ne_lx (by assumption) (by assumption) (by k_memK)) | exact ne_l1 (by assumption) (by k_memK) | exact ne_l2 (by assumption) (by k_memK) | exact ne_l3 (by assumption) (by k_memK) | exact Ne.symm (ne_l1 (by assumption) (by k_memK)) | exact Ne.symm (ne_l2 (by assumption) (by k_memK)) | exact Ne.symm (ne_l3 (by assumption) (by k_memK)))
    k_with "exec For Tuple Subscript" => (k_here; (rename Fr _ _ _ _ => lF'); (with_unfolding_all refine' For_turns lF' ?_; k_whole))
    k_with "compareOp Eq ref ref" => (k_dflt (k_extra "my eq"))
    k_with "callWith ref" => (k_here; k_dflt (refine' callWith_K ?k1 ?k2 ?_; (case k1 => k_asm); (case k2 => k_is); k_whole))
    k_with "RELT" => ((case B => k_asm); (case F => k_asm); (case X => k_asm); (case N => k_asm); (case T => k_asm); (case hf => exact rfl); (case hk => first | exact rfl | assumption); (case hd => ktr_room); (case hu => ktr_units))
    k_with "INN" => ((repeat (refine List.forall_mem_cons.mpr ?_; refine And.intro (by k_memK) ?_)); (first | exact List.forall_mem_nil _ | (intro q hq; k_ownIn)))
    k_with "k_all" => (first | (with_reducible assumption) | exact all_ne (by assumption) (by intro q hq; k_ownIn) | exact all_ne1 (by assumption) (by intro q hq; k_ownIn) | exact all_ne2 (by assumption) (by intro q hq; k_ownIn) | exact all_ne3 (by assumption) (by intro q hq; k_ownIn))
    k_with "subscriptTail Name Constant ref int" => (k_here; walk_at "subscriptTail")
    k_with "k_mem" => (assumption)
    k_with "LAMSTEP" => (refine wpAny_call ?_; k_dflt (refine' lam_here ?k1 ?k2 ?k3 ?k4 ?k5 ?kA ?kF ?kK ?k6 ?k7 ?k8 ?k9 ?kB ?_ ?c2 ?c3 ?c4 ?c5; (case kA => exact rfl); (case kF => assumption); (case kK => assumption); (case k1 => k_asm); (case k2 => k_asm); (case k3 => k_asm); (case k4 => k_asm); (case k5 => k_asm); (case k6 => k_mem); (case k7 => exact codeRec_news (by k_asm) (by k_mem) (by assumption) (by assumption)); (case k8 => ktr_room); (case k9 => exact rfl); (case c5 => decide); (case kB => exact locs rfl); (case c2 => exact rfl); (case c3 => exact rfl); (case c4 => exact rfl); k_whole; intro g' L' h' S' FG' F' N' B' X' T' l1; (try k_lt l1); (try dsimp only); (try k_lift B'); (try k_fold)))
    obtain ⟨vsA, tA, hA1, hA2⟩ := hA.h
    obtain ⟨vsB, tB, hB1, hB2⟩ := hB.h
    k_with "my eq" => (refine' eq_op_item hop (News.get (by k_asm) (by k_mem)) (News.isTup (by k_asm) (by k_mem)) ?hu9 ?_; (case hu9 => ktr_units))
    k_with "my call" => (
      (with_reducible show wpAny _ _ (call (Value.ref 233) _) _ _ _)
      k_dflt (refine' CallOk.useR (constant_ok hop hsz) ?B ?F ?X ?N ?T ?hf ?hk ?hd ?hu ?P ?_; walk_at "RELT"; (case P => exact List.forall_mem_cons.mpr ⟨by k_mem, List.forall_mem_nil _⟩); k_whole)
      intro r' h' tk' F' N' po'; obtain ⟨bc', tc', e1', hbc'⟩ := po'; subst e1'; k_sweep; (try dsimp only))
    k_with "my call" => (
      (with_reducible show wpAny _ _ (call (Value.ref 207) _) _ _ _)
      (rename News _ _ _ _ => lN')
      k_dflt (refine' repl2_use (os := os) (row := row) (robj := robj) (row2 := row2) (robj2 := robj2) ?B ?F ?X lN' ?T ?hf ?hk ?hd ?hu lo ?H ?hr ?hr2 ?hm ?hm2 ?o1 ?o2 ?_; (case B => k_asm); (case F => k_asm); (case X => k_asm); (case T => k_asm); (case hf => exact rfl); (case hk => first | exact rfl | assumption); (case hd => ktr_room); (case hu => ktr_units); (case hr => exact hr.mono (by intro q hq; k_ownIn)); (case hr2 => exact hr2.mono (by intro q hq; k_ownIn)); (case hm => k_memK); (case hm2 => k_memK); (case o1 => exact ⟨by k_ne, by k_ne, by k_ne, by k_ne, by k_ne, by k_ne, by k_ne, by k_ne, True.intro⟩); (case o2 => k_all); (case' H => refine Held.on ?_))
      all_goals (try (intro ts' xp' n' c' z' tz' h' tk' F' hz' N'; (try dsimp only))))
    walk_at "STEPC"
    k_steps
    · refine Held.mk ⟨?_, ?_, ?_⟩
      · intro op a obj size t hop hmem hsz
        intro dp2 un2 gd2 env2 outer2 A₂ base2 h₂ L2 m2 s2 Q2 E2 B2 F2 X2 N2 T2 hfr2 hk2 hd2 hu2 hret2
        have hm2 := News.mem2 N2 hmem
        walk_at "LAMSTEP"
        k_steps
        exact hret2 _ _ _ _ (by k_asm) (by assumption) (Stays.back (by assumption) (by assumption) (by assumption)) ⟨rfl, .mk hbc'⟩
      · intro t
        intro dp2 un2 gd2 env2 outer2 A₂ base2 h₂ L2 m2 s2 Q2 E2 B2 F2 X2 N2 T2 hfr2 hk2 hd2 hu2 hret2
        walk_at "LAMSTEP"
        k_steps
        exact hret2 _ _ _ _ (by k_asm) (by assumption) (Stays.back (by assumption) (by assumption) (by assumption)) ⟨rfl, .mk ho⟩
      · intro b t
        intro dp2 un2 gd2 env2 outer2 A₂ base2 h₂ L2 m2 s2 Q2 E2 B2 F2 X2 N2 T2 hfr2 hk2 hd2 hu2 hret2
        walk_at "LAMSTEP"
        k_steps
        refine' hret2 _ _ _ _ (by k_asm) (News.sub (by assumption) ?nw) (Back.sub (Stays.back (by assumption) (by assumption) (by assumption)) ?bk) ⟨_, _, _, ⟨rfl, ⟨_, rfl⟩, ⟨_, rfl⟩⟩, rfl⟩
        all_goals walk_at "INN"
    · refine hret _ ((235, lamTab cA cB) :: (cA, ocA) :: (cB, ocB) :: (ra, listOf #[.ref r1, .ref r2] n0) :: (r1, robj) :: (r2, robj2) :: OL) _ _ (by k_asm) (News.sub (by assumption) (by walk_at "INN")) (Back.sub (Stays.back (by assumption) (by assumption) (by assumption)) (by walk_at "INN")) ⟨rfl, .mk hz'⟩
  case F9 =>
    intros h9
    k_with_none
    conv at h9 => skip
    conv at h9 => zeta
    exact @ofTag _ _ (tag_triv : type_of% h9)))
end
end SLawRep2
section SLawRepM
section
variable {prog : Program} {w : World} {p : Program} {loose : List Str} {mean : ExcName → Option Value} {mg mb : Str → Option Value}
set_option maxRecDepth 100000 in
set_option maxHeartbeats 8000000 in
theorem law_replacedM_ok {ra r1 : Addr} {n0 : Nat} {o : Array UInt8} {os : Oct} {t1 : Tok} {robj : Obj} {row : RowS} {OL : Led} (ho : KBw.bInts o = os) (lo : os.length ≤ 64) (q1 : @Ne Nat ra 235) (q2 : @Ne Nat r1 235) (hO : ∀ q ∈ OL, q.1 ≠ 235) (hr : RowOk OL row robj)
    {dp un : Nat} {gd : Option (List Code)} {env : Env} {outer : List Env} {A₀ : Around} {base h₀ : Heap} {L : Addr} {m : Str → Option Value} {s : Shared} {Q E : Value → Shared → Prop}
    (B : Below A₀ base outer h₀) (F : Fr h₀ L s.heap m) (X : (hd.heap_39 w.params).In h₀) (N : News h₀ L s.heap ((235, tabObj #[]) :: (ra, listOf #[.ref r1] n0) :: (r1, robj) :: OL)) (T : Top p loose mean mg mb h₀) (hfr : env.frame = some L) (hk : env.scope.kind = .function) (hd : dp + 12 < recursionLimit) (hu : un + 500 < cLine) (hc : CodeHd base 239 235)
    (hret : ∀ r led h' tk', Fr h₀ L h' m → News h₀ L h' led → Back ((235, tabObj #[]) :: (ra, listOf #[.ref r1] n0) :: (r1, robj) :: OL) led s.heap h' → (∃ cA ocA cB ocB, LamC ocA ∧ LamC ocB ∧ led = ((235, lamTab cA cB) :: (cA, ocA) :: (cB, ocB) :: (ra, listOf #[.ref r1] n0) :: (r1, robj) :: OL) ∧ BV (repl1 os row) r) → Q r { s with heap := h', toks := tk' }) :
    wpAny (model prog w) (TopA dp un gd env outer) (call (.ref 240) [.bytes o t1, .ref ra]) Q E s :=
  @ofTag _ _ (by exact tag_triv : Tag (by
  k_with_none
  w_top off
  k_with "ne9" => (first | exact ne_Nat | exact ne_Heap | exact ne_Value | exact ne_Str | exact ne_Int | exact ne_Env | exact ne_Shared | exact ne_Around | exact ne_Program | exact ne_World | exact ne_List | exact ne_Option | exact ne_Arr | exact ne_Obj | exact ne_FuncData | exact ne_prod ne_Nat ne_Obj | exact ne_fun ne_Prop | exact ne_fun (ne_fun ne_Prop) | exact ne_fun ne_Option | exact ⟨Kd.chars⟩ | exact ⟨Opd.zero⟩ | (refine ⟨?_⟩; exact default) | (refine ⟨?_⟩; constructor <;> (first | exact default | exact Kd.chars | exact Opd.zero | exact tupOf #[] 0)))
  revert prog w p loose mean mg mb ra r1 n0 o os t1 robj row OL ho lo q1 q2 hO hr dp un gd env outer A₀ base h₀ L m s Q E B F X N T hfr hk hd hu hc hret
  refine no_implicit_lambda% ((?F9 : @Tag ?T9 (?prf9 : ?T9) → ?T9) tag_triv)
  case prf9 =>
    intro prog w p loose mean mg mb ra r1 n0 o os t1 robj row OL ho lo q1 q2 hO hr dp un gd env outer A₀ base h₀ L m s Q E B F X N T hfr hk hd hu hc hret
    k_with_none
    k_with "ne9" => (first | exact ne_Nat | exact ne_Heap | exact ne_Value | exact ne_Str | exact ne_Int | exact ne_Env | exact ne_Shared | exact ne_Around | exact ne_Program | exact ne_World | exact ne_List | exact ne_Option | exact ne_Arr | exact ne_Obj | exact ne_FuncData | exact ne_prod ne_Nat ne_Obj | exact ne_fun ne_Prop | exact ne_fun (ne_fun ne_Prop) | exact ne_fun ne_Option | exact ⟨Kd.chars⟩ | exact ⟨Opd.zero⟩ | (refine ⟨?_⟩; exact default) | (refine ⟨?_⟩; constructor <;> (first | exact default | exact Kd.chars | exact Opd.zero | exact tupOf #[] 0)))
    k_with "k_lt_skip" => skip
    k_with "k_all" => (first | (with_reducible assumption) | exact all_ne (by with_reducible assumption) (by intro q hq; k_ownIn))
    k_with "k_ne" => (first | exact ne_l (by with_reducible assumption) (by k_memK) | exact Ne.symm (ne_l (by with_reducible assumption) (by k_memK)) | exact ne_l1 (by with_reducible assumption) (by k_memK) | exact ne_l2 (by with_reducible assumption) (by k_memK) | exact ne_l3 (by with_reducible assumption) (by k_memK) | exact Ne.symm (ne_l1 (by with_reducible assumption) (by k_memK)) | exact Ne.symm (ne_l2 (by with_reducible assumption) (by k_memK)))
    k_with "room" => (first | exact rm0 (by with_reducible assumption) | exact rm1 (by with_reducible assumption) (by decide) | exact rm2 (by with_reducible assumption) (by decide) | exact rm3 (by with_reducible assumption) (by decide))
    k_with "units" => (first | exact rm0 (by with_reducible assumption) | exact rm1 (by with_reducible assumption) (by decide) | exact rm2 (by with_reducible assumption) (by decide) | exact rm3 (by with_reducible assumption) (by decide))
    k_with "ktu_obj" => (refine AllObj.cons ?_; intro o' hc'; (try dsimp only at hc'))
    k_with "ItemsRest" => (first | ((with_unfolding_all refine ItemsRest.val ?_); intro h' tk' F'; ktu_objs) | ((with_unfolding_all refine ItemsRest.pair ?_); intro T' t' h' tk' hT' F'; (try dsimp only at hT'); ktu_objs) | ((with_unfolding_all refine ItemsRest.tok ?_); intro t' h' tk' F'; (try dsimp only); ktu_objs) | ((with_unfolding_all refine ItemsRest.zero ?_); intro h' tk' F' N'))
    k_with "call ref" => (k_extra "my call")
    k_with "pyIter ref" => (k_extra "my loop")
    k_with "exec While Compare" => (k_dflt (k_extra "my while"))
    k_with "exec While BoolOp" => (k_dflt (k_extra "my while"))
    k_with "STEPC" => (refine wpAny_call ?_; k_dflt (refine' code_hereC ?k1 ?k2 ?k3 ?k4 ?k5 ?kA ?kF ?kK ?k6 ?k7 ?k8 ?k9 ?kB ?kD ?_ ?c2 ?c3 ?c4; (case kA => exact rfl); (case kF => assumption); (case kK => assumption); (case k1 => k_asm); (case k2 => k_asm); (case k3 => k_asm); (case k4 => k_asm); (case k5 => k_asm); (case k6 => k_is); (case k7 => k_is); (case k8 => ktr_room); (case k9 => exact BindsTo.of_eq rfl); (case kB => exact rfl); (case kD => decide +kernel); (case c2 => exact rfl); (case c3 => exact rfl); (case c4 => exact rfl); k_whole; intro g' L' h' tk' cells' S' FG' F' N' Y' B' X' T' l1; (try k_lt l1); k_cells Y'; (try simp only [List.cons_append, List.nil_append] at N'); (try dsimp only); (try k_lift B'); (try k_fold)))
    k_with "ite" => (k_closed; first | refine ite_pos (by decide +kernel) ?_ | refine ite_neg (by decide +kernel) ?_)
    k_with "RELR" => (
      (case B => k_asm); (case F => k_asm); (case X => k_asm); (case N => k_asm); (case T => k_asm); (case hf => exact rfl); (case hk => first | exact rfl | assumption); (case hd => ktr_room); (case hu => ktr_units);
      (case P => k_allIn);
      k_whole)
    k_with "k_ne" => (first | exact ne_l (by assumption) (by k_memK) | exact Ne.symm (ne_l (by assumption) (by k_memK)) | exact Nat.ne_of_lt (by assumption) | exact Nat.ne_of_gt (by assumption) | exact ne_lx (by assumption) (by assumption) (by k_memK) | exact Ne.symm (ne_lx (by assumption) (by assumption) (by k_memK)) | exact ne_l1 (by assumption) (by k_memK) | exact ne_l2 (by assumption) (by k_memK) | exact ne_l3 (by assumption) (by k_memK) | exact Ne.symm (ne_l1 (by assumption) (by k_memK)) | exact Ne.symm (ne_l2 (by assumption) (by k_memK)) | exact Ne.symm (ne_l3 (by assumption) (by k_memK)))
    k_with "exec For Tuple Subscript" => (k_here; (rename Fr _ _ _ _ => lF'); (with_unfolding_all refine' For_turns lF' ?_; k_whole))
    k_with "compareOp Eq ref ref" => (k_dflt (k_extra "my eq"))
    k_with "callWith ref" => (k_here; k_dflt (refine' callWith_K ?k1 ?k2 ?_; (case k1 => k_asm); (case k2 => k_is); k_whole))
    k_with "RELT" => ((case B => k_asm); (case F => k_asm); (case X => k_asm); (case N => k_asm); (case T => k_asm); (case hf => exact rfl); (case hk => first | exact rfl | assumption); (case hd => ktr_room); (case hu => ktr_units))
    k_with "INN" => ((repeat (refine List.forall_mem_cons.mpr ?_; refine And.intro (by k_memK) ?_)); (first | exact List.forall_mem_nil _ | (intro q hq; k_ownIn)))
    k_with "k_all" => (first | (with_reducible assumption) | exact all_ne (by assumption) (by intro q hq; k_ownIn) | exact all_ne1 (by assumption) (by intro q hq; k_ownIn) | exact all_ne2 (by assumption) (by intro q hq; k_ownIn) | exact all_ne3 (by assumption) (by intro q hq; k_ownIn))
    k_with "subscriptTail Name Constant ref int" => (k_here; walk_at "subscriptTail")
    k_with "k_mem" => (assumption)
    k_with "LAMSTEP" => (refine wpAny_call ?_; k_dflt (refine' lam_here ?k1 ?k2 ?k3 ?k4 ?k5 ?kA ?kF ?kK ?k6 ?k7 ?k8 ?k9 ?kB ?_ ?c2 ?c3 ?c4 ?c5; (case kA => exact rfl); (case kF => assumption); (case kK => assumption); (case k1 => k_asm); (case k2 => k_asm); (case k3 => k_asm); (case k4 => k_asm); (case k5 => k_asm); (case k6 => k_mem); (case k7 => exact codeRec_news (by k_asm) (by k_mem) (by assumption) (by assumption)); (case k8 => ktr_room); (case k9 => exact rfl); (case c5 => decide); (case kB => exact locs rfl); (case c2 => exact rfl); (case c3 => exact rfl); (case c4 => exact rfl); k_whole; intro g' L' h' S' FG' F' N' B' X' T' l1; (try k_lt l1); (try dsimp only); (try k_lift B'); (try k_fold)))
    k_with "my eq" => (refine' eq_op_item hop (News.get (by k_asm) (by k_mem)) (News.isTup (by k_asm) (by k_mem)) ?hu9 ?_; (case hu9 => ktr_units))
    k_with "my call" => (
      (with_reducible show wpAny _ _ (call (Value.ref 233) _) _ _ _)
      k_dflt (refine' CallOk.useR (constant_ok hop hsz) ?B ?F ?X ?N ?T ?hf ?hk ?hd ?hu ?P ?_; walk_at "RELT"; (case P => exact List.forall_mem_cons.mpr ⟨by k_mem, List.forall_mem_nil _⟩); k_whole)
      intro r' h' tk' F' N' po'; obtain ⟨bc', tc', e1', hbc'⟩ := po'; subst e1'; k_sweep; (try dsimp only))
    k_with "my call" => (
      (with_reducible show wpAny _ _ (call (Value.ref 207) _) _ _ _)
      (rename News _ _ _ _ => lN'); (replace lN' := News.missPerm lN')
      k_dflt (refine' repl1_use (os := os) (row := row) (robj := robj) ?B ?F ?X lN' ?T ?hf ?hk ?hd ?hu lo ?H ?hr ?hm ?o1 ?o2 ?_; (case B => k_asm); (case F => k_asm); (case X => k_asm); (case T => k_asm); (case hf => exact rfl); (case hk => first | exact rfl | assumption); (case hd => ktr_room); (case hu => ktr_units); (case hr => exact hr.mono (by intro q hq; k_ownIn)); (case hm => k_memK); (case o1 => exact ⟨by k_ne, by k_ne, by k_ne, by k_ne, by k_ne, by k_ne, by k_ne, True.intro⟩); (case o2 => k_all); (case' H => refine Held.on ?_))
      all_goals (try (intro ts' xp' n' c' z' tz' h' tk' F' hz' N'; (try dsimp only))))
    walk_at "STEPC"
    k_steps
    · refine Held.mk ⟨?_, ?_, ?_⟩
      · intro op a obj size t hop hmem hsz
        intro dp2 un2 gd2 env2 outer2 A₂ base2 h₂ L2 m2 s2 Q2 E2 B2 F2 X2 N2 T2 hfr2 hk2 hd2 hu2 hret2
        have hm2 := News.mem2 N2 hmem
        walk_at "LAMSTEP"
        k_steps
        exact hret2 _ _ _ _ (by k_asm) (by assumption) (Stays.back (by assumption) (by assumption) (by assumption)) ⟨rfl, .mk hbc'⟩
      · intro t
        intro dp2 un2 gd2 env2 outer2 A₂ base2 h₂ L2 m2 s2 Q2 E2 B2 F2 X2 N2 T2 hfr2 hk2 hd2 hu2 hret2
        walk_at "LAMSTEP"
        k_steps
        exact hret2 _ _ _ _ (by k_asm) (by assumption) (Stays.back (by assumption) (by assumption) (by assumption)) ⟨rfl, .mk ho⟩
      · intro b t
        intro dp2 un2 gd2 env2 outer2 A₂ base2 h₂ L2 m2 s2 Q2 E2 B2 F2 X2 N2 T2 hfr2 hk2 hd2 hu2 hret2
        walk_at "LAMSTEP"
        k_steps
        refine' hret2 _ _ _ _ (by k_asm) (News.sub (by assumption) ?nw) (Back.sub (Stays.back (by assumption) (by assumption) (by assumption)) ?bk) ⟨_, _, _, ⟨rfl, ⟨_, rfl⟩, ⟨_, rfl⟩⟩, rfl⟩
        all_goals walk_at "INN"
    · (rename News _ _ _ _ => nE')
      have hT : ∀ a b : Value, (#[] ++ #[rawInt ↑147, rawInt ↑18, a] ++ #[rawInt ↑147, rawInt ↑101, b] : Array Value) = #[rawInt 147, rawInt 18, a, rawInt 147, rawInt 101, b] := fun a b => by simp
      refine hret _ _ _ _ (by k_asm) (News.sub nE' (miss_sub (hT _ _))) (Back.sub (Stays.back (by assumption) (by assumption) (by assumption)) (miss_sub (hT _ _))) ⟨_, _, _, _, ⟨_, _, by assumption, by assumption⟩, ⟨_, _, by assumption, by assumption⟩, rfl, .mk hz'⟩
  case F9 =>
    intros h9
    k_with_none
    conv at h9 => skip
    conv at h9 => zeta
    exact @ofTag _ _ (tag_triv : type_of% h9)))
end
end SLawRepM
section SLawUse
section
variable {prog : Program} {w : World} {p : Program} {loose : List Str} {mean : ExcName → Option Value} {mg mb : Str → Option Value} {ra r1 r2 cA cB : Addr} {n0 : Nat} {o : Array UInt8} {os : Oct} {t1 : Tok} {ocA ocB robj robj2 : Obj} {row row2 : RowS} {OL : Led}
theorem lawR1 (ho : KBw.bInts o = os) (lo : os.length ≤ 64) (hA : LamC ocA) (hB : LamC ocB) (hr : RowOk OL row robj) :
    CallOkC prog w p loose mean mg mb 12 500 (.ref 240) [.bytes o t1, .ref ra] ((235, lamTab cA cB) :: (cA, ocA) :: (cB, ocB) :: (ra, listOf #[.ref r1] n0) :: (r1, robj) :: OL) (fun r led => led = ((235, lamTab cA cB) :: (cA, ocA) :: (cB, ocB) :: (ra, listOf #[.ref r1] n0) :: (r1, robj) :: OL) ∧ BV (repl1 os row) r) :=
  fun _ _ _ _ _ _ _ _ _ _ _ _ _ B F X N T hf hk hd hu hc h => law_replaced1_ok ho lo hA hB hr B F X N T hf hk hd hu hc h
theorem lawR2 (ho : KBw.bInts o = os) (lo : os.length ≤ 64) (hA : LamC ocA) (hB : LamC ocB) (hr : RowOk OL row robj) (hr2 : RowOk OL row2 robj2) :
    CallOkC prog w p loose mean mg mb 12 500 (.ref 240) [.bytes o t1, .ref ra] ((235, lamTab cA cB) :: (cA, ocA) :: (cB, ocB) :: (ra, listOf #[.ref r1, .ref r2] n0) :: (r1, robj) :: (r2, robj2) :: OL) (fun r led => led = ((235, lamTab cA cB) :: (cA, ocA) :: (cB, ocB) :: (ra, listOf #[.ref r1, .ref r2] n0) :: (r1, robj) :: (r2, robj2) :: OL) ∧ BV (repl2 os row row2) r) :=
  fun _ _ _ _ _ _ _ _ _ _ _ _ _ B F X N T hf hk hd hu hc h => law_replaced2_ok ho lo hA hB hr hr2 B F X N T hf hk hd hu hc h
theorem lawRM (ho : KBw.bInts o = os) (lo : os.length ≤ 64) (q1 : @Ne Nat ra 235) (q2 : @Ne Nat r1 235) (hO : ∀ q ∈ OL, q.1 ≠ 235) (hr : RowOk OL row robj) :
    CallOkC prog w p loose mean mg mb 12 500 (.ref 240) [.bytes o t1, .ref ra] ((235, tabObj #[]) :: (ra, listOf #[.ref r1] n0) :: (r1, robj) :: OL) (fun r led => ∃ n, FullT n ∧ led = n ++ ((ra, listOf #[.ref r1] n0) :: (r1, robj) :: OL) ∧ BV (repl1 os row) r) :=
  fun _ _ _ _ _ _ _ _ _ _ _ _ _ B F X N T hf hk hd hu hc h => law_replacedM_ok ho lo q1 q2 hO hr B F X N T hf hk hd hu hc fun r led h' tk' F' N' b po => h r led h' tk' F' N' b (by
    obtain ⟨cA, ocA, cB, ocB, hA, hB, rfl, po⟩ := po
    exact ⟨_, ⟨cA, ocA, cB, ocB, hA, hB, rfl⟩, rfl, po⟩)
end
end SLawUse
section SWrUse
open PyProof.Rows.LCg in
theorem off3_part {I C D : Addr} {o : Obj} {Y YY : Led} (off : Off3 I C D YY) (hp : Part YY [(235, o)] Y) : Off3 I C D Y ∧ ((@Ne Nat 235 I) ∧ (@Ne Nat 235 C) ∧ (@Ne Nat 235 D)) := by
  obtain ⟨h1, h2⟩ := hp.mem
  exact ⟨Off3.of fun p hq => off.mem p (h2 p hq), off.mem (235, o) (h1 _ (.head _))⟩
section
open PyProof.Rows.LCg
variable {prog : Program} {w : World} {p : Program} {loose : List Str} {mean : ExcName → Option Value} {mg mb : Str → Option Value}
  {dp un : Nat} {gd : Option (List Code)} {env : Env} {outer : List Env} {A₀ : Around} {base h₀ : Heap} {L : Addr} {m : Str → Option Value} {s : Shared} {Q E : Value → Shared → Prop}
theorem lawRM_comp {I C D ra r1 : Addr} {oI oC oD robj : Obj} {n0 : Nat} {YY Y : Led} {o : Array UInt8} {os : Oct} {t1 : Tok} {row : RowS} (ho : KBw.bInts o = os) (lo : os.length ≤ 64)
    (B : Below A₀ base outer h₀) (F : Fr h₀ L s.heap m) (X : (hd.heap_39 w.params).In h₀) (N : News h₀ L s.heap ((I, oI) :: (C, oC) :: (D, oD) :: YY)) (off : Off3 I C D YY) (hp : Part YY [(235, tabObj #[])] Y) (hY : ∀ q ∈ Y, q.1 ≠ 235) (T : Top p loose mean mg mb h₀) (hf : env.frame = some L) (hk : env.scope.kind = .function) (hd : dp + 12 < recursionLimit) (hu : un + 500 < cLine) (hc : CodeHd base 239 235)
    (mra : (ra, listOf #[.ref r1] n0) ∈ Y) (mr1 : (r1, robj) ∈ Y) (hr : RowOk Y row robj)
    (h : ∀ r cA ocA cB ocB h' tk', Fr h₀ L h' m → LamC ocA → LamC ocB → News h₀ L h' ((I, oI) :: (C, oC) :: (D, oD) :: (235, lamTab cA cB) :: (cA, ocA) :: (cB, ocB) :: Y) → Off3 I C D ((235, lamTab cA cB) :: (cA, ocA) :: (cB, ocB) :: Y) → BV (repl1 os row) r → Q r { s with heap := h', toks := tk' }) :
    wpAny (model prog w) (TopA dp un gd env outer) (call (.ref 240) [.bytes o t1, .ref ra]) Q E s := by
  obtain ⟨hoY, h235⟩ := off3_part off hp
  obtain ⟨h1, h2⟩ := hp.mem
  refine CallOkC.useM (others := (I, oI) :: (C, oC) :: (D, oD) :: Y) (lawRM (ra := ra) (r1 := r1) (n0 := n0) ho lo (hY _ mra) (hY _ mr1) hY hr) B F X N T hf hk hd hu hc (.tail _ (.tail _ (.tail _ (h1 _ (.head _))))) (fun q hq => ?_) (fun q hq => ?_) (fun q hq => ?_) fun r n h' tk' F' hn N' b po => ?_
  · refine .tail _ (.tail _ (.tail _ (h2 _ ?_)))
    rcases List.mem_cons.mp hq with rfl | hq
    · exact mra
    rcases List.mem_cons.mp hq with rfl | hq
    · exact mr1
    · exact hq
  · rcases List.mem_cons.mp hq with rfl | hq
    · exact .head _
    rcases List.mem_cons.mp hq with rfl | hq
    · exact .tail _ (.head _)
    rcases List.mem_cons.mp hq with rfl | hq
    · exact .tail _ (.tail _ (.head _))
    · exact .tail _ (.tail _ (.tail _ (h2 _ hq)))
  · rcases List.mem_cons.mp hq with rfl | hq
    · exact Ne.symm h235.1
    rcases List.mem_cons.mp hq with rfl | hq
    · exact Ne.symm h235.2.1
    rcases List.mem_cons.mp hq with rfl | hq
    · exact Ne.symm h235.2.2
    · exact hY q hq
  · obtain ⟨cA, ocA, cB, ocB, hA, hB, rfl⟩ := hn
    refine h r cA ocA cB ocB h' tk' F' hA hB (News.sub N' fun q hq => ?_) (off3_full N (.head _) (.tail _ (.head _)) (.tail _ (.tail _ (.head _))) b h235 hoY fun q hq => ?_) po
    · simp only [List.mem_cons, List.mem_append] at hq ⊢
      rcases hq with h | h | h | h | h | h | h <;> simp [h]
    · rcases List.mem_cons.mp hq with rfl | hq
      · exact mra
      rcases List.mem_cons.mp hq with rfl | hq
      · exact mr1
      · exact hq
end
end SWrUse
section SWrT
section
open PyProof.Rows.LCg
/-- a call of the law's function in a turn: the block's three stand off, the ledger goes on to one that Post tells -/
def TurnC (prog : Program) (w : World) (p : Program) (loose : List Str) (mean : ExcName → Option Value) (mg mb : Str → Option Value) (Y : Led) (Post : Led → Prop) (o : Array UInt8) (ra : Addr) (due : Oct) : Prop :=
  ∀ (t1 : Tok) (dp un : Nat) (gd : Option (List Code)) (env : Env) (outer : List Env) (A₀ : Around) (base h₀ : Heap) (L : Addr) (m : Str → Option Value) (s : Shared) (Q E : Value → Shared → Prop) (I C D : Addr) (oI oC oD : Obj),
    Below A₀ base outer h₀ → Fr h₀ L s.heap m → (hd.heap_39 w.params).In h₀ → News h₀ L s.heap ((I, oI) :: (C, oC) :: (D, oD) :: Y) → Off3 I C D Y → Top p loose mean mg mb h₀ → env.frame = some L → env.scope.kind = .function → dp + 12 < recursionLimit → un + 500 < cLine → CodeHd base 239 235 →
    (∀ r Y' h' tk', Fr h₀ L h' m → News h₀ L h' ((I, oI) :: (C, oC) :: (D, oD) :: Y') → Off3 I C D Y' → Post Y' → BV due r → Q r { s with heap := h', toks := tk' }) →
    wpAny (model prog w) (TopA dp un gd env outer) (call (.ref 240) [.bytes o t1, .ref ra]) Q E s
/-- the ledger ahead of turn i: the table empty ahead of the first, full behind it -/
def JW (news Y0 : Led) (i : Nat) (Y : Led) : Prop := (i = 0 ∧ Y = news) ∨ (0 < i ∧ ∃ cA ocA cB ocB, LamC ocA ∧ LamC ocB ∧ Y = (235, lamTab cA cB) :: (cA, ocA) :: (cB, ocB) :: Y0)
theorem JW.mem {news Y0 Y : Led} {i : Nat} {q : Addr × Obj} (h : JW news Y0 i Y) (m : q ∈ Y0) (hs : ∀ q ∈ Y0, q ∈ news) : q ∈ Y := by
  rcases h with ⟨_, rfl⟩ | ⟨_, cA, ocA, cB, ocB, _, _, rfl⟩
  · exact hs q m
  · exact .tail _ (.tail _ (.tail _ m))
theorem JW.memS {news Y0 Y : Led} {i : Nat} {q : Addr × Obj} (h : JW news Y0 (i + 1) Y) (m : q ∈ Y0) : q ∈ Y := by
  rcases h with ⟨h, _⟩ | ⟨_, cA, ocA, cB, ocB, _, _, rfl⟩
  · exact absurd h (Nat.succ_ne_zero _)
  · exact .tail _ (.tail _ (.tail _ m))
/-- what a row answers at its turn -/
def RowW (prog : Program) (w : World) (p : Program) (loose : List Str) (mean : ExcName → Option Value) (mg mb : Str → Option Value) (news Y0 : Led) (i : Nat) (v : Value) : Prop :=
  ∀ Y, JW news Y0 i Y → ∃ a ra o t1 du t2 c due, v = .ref a ∧ KBw.bInts du = due ∧ (a, tupOf #[.bytes o t1, .ref ra, .bytes du t2] c) ∈ Y ∧ (∀ Y', JW news Y0 (i + 1) Y' → (a, tupOf #[.bytes o t1, .ref ra, .bytes du t2] c) ∈ Y') ∧ TurnC prog w p loose mean mg mb Y (JW news Y0 (i + 1)) o ra due
variable {prog : Program} {w : World} {p : Program} {loose : List Str} {mean : ExcName → Option Value} {mg mb : Str → Option Value} {news Y0 : Led} {i : Nat} {a ra r1 r2 : Addr} {o du : Array UInt8} {os : Oct} {t1 t2 : Tok} {c n0 : Nat} {robj robj2 : Obj} {row row2 : RowS}
theorem TurnC.use {Y : Led} {Post : Led → Prop} {o : Array UInt8} {ra : Addr} {due : Oct} (H : TurnC prog w p loose mean mg mb Y Post o ra due) {t1 : Tok} {dp un : Nat} {gd : Option (List Code)} {env : Env} {outer : List Env} {A₀ : Around} {base h₀ : Heap} {L : Addr} {m : Str → Option Value} {s : Shared} {Q E : Value → Shared → Prop} {I C D : Addr} {oI oC oD : Obj}
    (B : Below A₀ base outer h₀) (F : Fr h₀ L s.heap m) (X : (hd.heap_39 w.params).In h₀) (N : News h₀ L s.heap ((I, oI) :: (C, oC) :: (D, oD) :: Y)) (off : Off3 I C D Y) (T : Top p loose mean mg mb h₀) (hf : env.frame = some L) (hk : env.scope.kind = .function) (hd : dp + 12 < recursionLimit) (hu : un + 500 < cLine) (hc : CodeHd base 239 235)
    (h : ∀ r Y' h' tk', Fr h₀ L h' m → News h₀ L h' ((I, oI) :: (C, oC) :: (D, oD) :: Y') → Off3 I C D Y' → Post Y' → BV due r → Q r { s with heap := h', toks := tk' }) :
    wpAny (model prog w) (TopA dp un gd env outer) (call (.ref 240) [.bytes o t1, .ref ra]) Q E s :=
  H _ _ _ _ _ _ _ _ _ _ _ _ _ _ _ _ _ _ _ _ B F X N off T hf hk hd hu hc h
theorem rowW_0 (ho : KBw.bInts o = os) (lo : os.length ≤ 64) (hd : KBw.bInts du = repl1 os row) (hp : Part news [(235, tabObj #[])] Y0) (hY : ∀ q ∈ Y0, q.1 ≠ 235) (m1 : (a, tupOf #[.bytes o t1, .ref ra, .bytes du t2] c) ∈ Y0) (mra : (ra, listOf #[.ref r1] n0) ∈ Y0) (mr1 : (r1, robj) ∈ Y0) (hr : RowOk Y0 row robj) :
    RowW prog w p loose mean mg mb news Y0 0 (.ref a) := by
  intro Y hY'
  rcases hY' with ⟨_, rfl⟩ | ⟨h, _⟩
  · refine ⟨a, ra, o, t1, du, t2, c, _, rfl, hd, hp.mem.2 _ m1, fun Y' hY' => JW.memS hY' m1, ?_⟩
    exact fun _ _ _ _ _ _ _ _ _ _ _ _ _ _ _ _ _ _ _ _ B F X N off T hf hk hdp hu hc h => lawRM_comp (row := row) ho lo B F X N off hp hY T hf hk hdp hu hc mra mr1 hr fun r cA ocA cB ocB h' tk' F' hA hB N' off' po => h r _ h' tk' F' N' off' (.inr ⟨Nat.succ_pos _, cA, ocA, cB, ocB, hA, hB, rfl⟩) po
  · exact absurd h (Nat.lt_irrefl _)
theorem full_sub {L3 Y R : Led} {x y z : Addr × Obj} (h : ∀ q ∈ R, q ∈ Y) (p1 p2 p3 : Addr × Obj) : ∀ q ∈ x :: y :: z :: R, q ∈ p1 :: p2 :: p3 :: x :: y :: z :: Y := fun q hq => by
  simp only [List.mem_cons] at hq ⊢
  rcases hq with h1 | h1 | h1 | h1
  · simp [h1]
  · simp [h1]
  · simp [h1]
  · have := h q h1; simp [this]
theorem rowW_1 (hi : 0 < i) (ho : KBw.bInts o = os) (lo : os.length ≤ 64) (hd : KBw.bInts du = repl1 os row) (m1 : (a, tupOf #[.bytes o t1, .ref ra, .bytes du t2] c) ∈ Y0) (mra : (ra, listOf #[.ref r1] n0) ∈ Y0) (mr1 : (r1, robj) ∈ Y0) (hr : RowOk Y0 row robj) :
    RowW prog w p loose mean mg mb news Y0 i (.ref a) := by
  intro Y hY'
  rcases hY' with ⟨h, _⟩ | ⟨_, cA, ocA, cB, ocB, hA, hB, rfl⟩
  · exact absurd hi (by omega)
  · refine ⟨a, ra, o, t1, du, t2, c, _, rfl, hd, .tail _ (.tail _ (.tail _ m1)), fun Y' hY' => JW.memS hY' m1, ?_⟩
    exact fun _ _ _ _ _ _ _ _ _ _ _ _ _ _ _ _ _ _ _ _ B F X N off T hf hk hdp hu hc h => CallOkC.useR (lawR1 (row := row) ho lo hA hB hr) B F X N T hf hk hdp hu hc (full_sub (L3 := []) (fun q hq => by
      rcases List.mem_cons.mp hq with rfl | hq
      · exact mra
      rcases List.mem_cons.mp hq with rfl | hq
      · exact mr1
      · exact hq) _ _ _) fun r h' tk' F' N' po => h r _ h' tk' F' N' off (.inr ⟨Nat.succ_pos _, cA, ocA, cB, ocB, hA, hB, rfl⟩) po
theorem rowW_2 (hi : 0 < i) (ho : KBw.bInts o = os) (lo : os.length ≤ 64) (hd : KBw.bInts du = repl2 os row row2) (m1 : (a, tupOf #[.bytes o t1, .ref ra, .bytes du t2] c) ∈ Y0) (mra : (ra, listOf #[.ref r1, .ref r2] n0) ∈ Y0) (mr1 : (r1, robj) ∈ Y0) (mr2 : (r2, robj2) ∈ Y0) (hr : RowOk Y0 row robj) (hr2 : RowOk Y0 row2 robj2) :
    RowW prog w p loose mean mg mb news Y0 i (.ref a) := by
  intro Y hY'
  rcases hY' with ⟨h, _⟩ | ⟨_, cA, ocA, cB, ocB, hA, hB, rfl⟩
  · exact absurd hi (by omega)
  · refine ⟨a, ra, o, t1, du, t2, c, _, rfl, hd, .tail _ (.tail _ (.tail _ m1)), fun Y' hY' => JW.memS hY' m1, ?_⟩
    exact fun _ _ _ _ _ _ _ _ _ _ _ _ _ _ _ _ _ _ _ _ B F X N off T hf hk hdp hu hc h => CallOkC.useR (lawR2 (row := row) (row2 := row2) ho lo hA hB hr hr2) B F X N T hf hk hdp hu hc (full_sub (L3 := []) (fun q hq => by
      rcases List.mem_cons.mp hq with rfl | hq
      · exact mra
      rcases List.mem_cons.mp hq with rfl | hq
      · exact mr1
      rcases List.mem_cons.mp hq with rfl | hq
      · exact mr2
      · exact hq) _ _ _) fun r h' tk' F' N' po => h r _ h' tk' F' N' off (.inr ⟨Nat.succ_pos _, cA, ocA, cB, ocB, hA, hB, rfl⟩) po
theorem six {its : Array Value} {v0 v1 v2 v3 v4 v5 : Value} {J : Nat → Value → Prop} (e : its = #[v0, v1, v2, v3, v4, v5]) (h0 : J 0 v0) (h1 : J 1 v1) (h2 : J 2 v2) (h3 : J 3 v3) (h4 : J 4 v4) (h5 : J 5 v5) : ∀ i v, its[i]? = some v → J i v := by
  subst e
  intro i v h
  match i, h with
  | 0, h => cases h; exact h0
  | 1, h => cases h; exact h1
  | 2, h => cases h; exact h2
  | 3, h => cases h; exact h3
  | 4, h => cases h; exact h4
  | 5, h => cases h; exact h5
  | n + 6, h => simp at h
variable {A : Around} {h₀ : Heap} {L : Addr} {m : Str → Option Value} {env : Env} {ct elt : Expr} {x : Str} {scope : Scope} {cl : List (Str × Addr)} {s s' : Shared} {ax : Addr} {its : Array Value} {k : Nat} {Q : Value → Shared → Prop}
theorem comp_invW (hp : Part news [(235, tabObj #[])] Y0) (ha : (ax, ({ cls := .type "list", data := .seq its k } : Obj)) ∈ Y0) (hn : 0 < its.size)
    (rows : ∀ i v, its[i]? = some v → RowW prog w p loose mean mg mb news Y0 i v)
    (turn : ∀ i Y I oI C oC D m₂ h tk (E' : Value → Shared → Prop) a ra o t1 du t2 c due, KBw.bInts du = due → (a, tupOf #[.bytes o t1, .ref ra, .bytes du t2] c) ∈ Y → (∀ Y', JW news Y0 (i + 1) Y' → (a, tupOf #[.bytes o t1, .ref ra, .bytes du t2] c) ∈ Y') → TurnC prog w p loose mean mg mb Y (JW news Y0 (i + 1)) o ra due →
      NsObj oC m₂ → m₂ x = some (.ref a) → Fr h₀ L h m → News h₀ L h ((I, oI) :: (C, oC) :: (D, lst []) :: Y) → Off3 I C D Y → ((@Ne Nat I C) ∧ (@Ne Nat I D) ∧ (@Ne Nat C D)) →
      wpAny (model prog w) A (isTrue ct (compEnvC scope cl C env) (eval ct (compEnvC scope cl C env))) (fun ok s₂ => if ok = true then
        wpAny (model prog w) A (eval elt (compEnvC scope cl C env)) (CompEnd h₀ L m { s with heap := h, toks := tk } I oI C oC D (lst []) (fun _ => True) (fun _ _ => False)) E' s₂
        else CompEnd h₀ L m { s with heap := h, toks := tk } I oI C oC D (lst []) (fun _ => True) (fun _ news' => JW news Y0 (i + 1) news') Value.none s₂) E' { s with heap := h, toks := tk })
    (fin : ∀ D h tk cA ocA cB ocB, LamC ocA → LamC ocB → Fr h₀ L h m → News h₀ L h [(D, lst []), (235, lamTab cA cB), (cA, ocA), (cB, ocB)] → Q (.ref D) { s' with heap := h, toks := tk }) :
    LCt.CompRestT prog w A h₀ L m env ct elt x scope cl s (SrcAt h₀ ax its) (fun i v => its[i]? = some v) (FinE h₀ L m s' Q) its.size 0 [] news := by
  have hs := hp.mem.2
  have key : ∀ (j i : Nat) (Y : Led), i + j = its.size → JW news Y0 i Y → LCt.CompRestT prog w A h₀ L m env ct elt x scope cl s (SrcAt h₀ ax its) (fun i v => its[i]? = some v) (FinE h₀ L m s' Q) j i [] Y := by
    intro j
    induction j with
    | zero =>
      intro i Y hi hJ
      refine LCt.CompRestT.zero ?_
      rcases hJ with ⟨h, _⟩ | ⟨_, cA, ocA, cB, ocB, hA, hB, rfl⟩
      · omega
      · exact fun D h tk F N _ => fin D h tk cA ocA cB ocB hA hB F (News.sub N fun q hq => by simp only [List.mem_cons, List.not_mem_nil, or_false] at hq ⊢; rcases hq with h | h | h | h <;> simp [h])
    | succ j ih =>
      intro i Y hi hJ
      refine LCt.CompRestT.succ ?_
      intro v I oI C oC D m₂ h tk E' hv hC hx F N off ne
      obtain ⟨a, ra, o, t1, du, t2, c, due, rfl, e, m1, m2, hT⟩ := rows i v hv Y hJ
      refine wpAny_mono (turn i Y I oI C oC D m₂ h tk E' a ra o t1 du t2 c due e m1 m2 hT hC hx F N off ne) (fun ok s₂ hq => ?_) fun _ _ e => e
      by_cases hok : ok = true
      · rw [if_pos hok] at hq ⊢
        exact wpAny_mono hq (fun y s₃ hy => (by obtain ⟨_, _, _, _, _, _, _, _, hf⟩ := hy; exact hf.elim)) fun _ _ e => e
      · rw [if_neg hok] at hq ⊢
        obtain ⟨h', tk', nw, e, F', N', off', _, hJ'⟩ := hq
        exact ⟨h', tk', nw, e, F', N', off', .inr ⟨_, JW.mem hJ' ha hs, rfl, _, rfl⟩, ih (i + 1) nw (by omega) hJ'⟩
  exact key its.size 0 news (by omega) (.inl ⟨rfl, rfl⟩)
end
end SWrT
section SWr
section
variable {prog : Program} {w : World} {p : Program} {loose : List Str} {mean : ExcName → Option Value} {mg mb : Str → Option Value}
set_option maxRecDepth 100000 in
set_option maxHeartbeats 8000000 in
theorem written_ok : CallOkC prog w p loose mean mg mb 16 700 (.ref 252) [] [(235, tabObj #[])] (fun r led => r = .bool true ∧ FullT led) :=
  @ofTag _ _ (by exact tag_triv : Tag (by
  k_with_none
  w_top off
  k_with "ne9" => (first | exact ne_Nat | exact ne_Heap | exact ne_Value | exact ne_Str | exact ne_Int | exact ne_Env | exact ne_Shared | exact ne_Around | exact ne_Program | exact ne_World | exact ne_List | exact ne_Option | exact ne_Arr | exact ne_Obj | exact ne_FuncData | exact ne_prod ne_Nat ne_Obj | exact ne_fun ne_Prop | exact ne_fun (ne_fun ne_Prop) | exact ne_fun ne_Option | exact ⟨Kd.chars⟩ | exact ⟨Opd.zero⟩ | (refine ⟨?_⟩; exact default) | (refine ⟨?_⟩; constructor <;> (first | exact default | exact Kd.chars | exact Opd.zero | exact tupOf #[] 0)))
  revert prog w p loose mean mg mb
  refine no_implicit_lambda% ((?F9 : @Tag ?T9 (?prf9 : ?T9) → ?T9) tag_triv)
  case prf9 =>
    intro prog w p loose mean mg mb
    k_with_none
    k_with "ne9" => (first | exact ne_Nat | exact ne_Heap | exact ne_Value | exact ne_Str | exact ne_Int | exact ne_Env | exact ne_Shared | exact ne_Around | exact ne_Program | exact ne_World | exact ne_List | exact ne_Option | exact ne_Arr | exact ne_Obj | exact ne_FuncData | exact ne_prod ne_Nat ne_Obj | exact ne_fun ne_Prop | exact ne_fun (ne_fun ne_Prop) | exact ne_fun ne_Option | exact ⟨Kd.chars⟩ | exact ⟨Opd.zero⟩ | (refine ⟨?_⟩; exact default) | (refine ⟨?_⟩; constructor <;> (first | exact default | exact Kd.chars | exact Opd.zero | exact tupOf #[] 0)))
    k_with "k_lt_skip" => skip
    k_with "k_all" => (first | (with_reducible assumption) | exact all_ne (by with_reducible assumption) (by intro q hq; k_ownIn))
    k_with "k_ne" => (first | exact ne_l (by with_reducible assumption) (by k_memK) | exact Ne.symm (ne_l (by with_reducible assumption) (by k_memK)) | exact ne_l1 (by with_reducible assumption) (by k_memK) | exact ne_l2 (by with_reducible assumption) (by k_memK) | exact ne_l3 (by with_reducible assumption) (by k_memK) | exact Ne.symm (ne_l1 (by with_reducible assumption) (by k_memK)) | exact Ne.symm (ne_l2 (by with_reducible assumption) (by k_memK)))
    k_with "room" => (first | exact rm0 (by with_reducible assumption) | exact rm1 (by with_reducible assumption) (by decide) | exact rm2 (by with_reducible assumption) (by decide) | exact rm3 (by with_reducible assumption) (by decide))
    k_with "units" => (first | exact rm0 (by with_reducible assumption) | exact rm1 (by with_reducible assumption) (by decide) | exact rm2 (by with_reducible assumption) (by decide) | exact rm3 (by with_reducible assumption) (by decide))
    k_with "ktu_obj" => (refine AllObj.cons ?_; intro o' hc'; (try dsimp only at hc'))
    k_with "ItemsRest" => (first | ((with_unfolding_all refine ItemsRest.val ?_); intro h' tk' F'; ktu_objs) | ((with_unfolding_all refine ItemsRest.pair ?_); intro T' t' h' tk' hT' F'; (try dsimp only at hT'); ktu_objs) | ((with_unfolding_all refine ItemsRest.tok ?_); intro t' h' tk' F'; (try dsimp only); ktu_objs) | ((with_unfolding_all refine ItemsRest.zero ?_); intro h' tk' F' N'))
    k_with "call ref" => (k_extra "my call")
    k_with "pyIter ref" => (k_extra "my loop")
    k_with "exec While Compare" => (k_dflt (k_extra "my while"))
    k_with "exec While BoolOp" => (k_dflt (k_extra "my while"))
    k_with "STEPC" => (refine wpAny_call ?_; k_dflt (refine' code_hereC ?k1 ?k2 ?k3 ?k4 ?k5 ?kA ?kF ?kK ?k6 ?k7 ?k8 ?k9 ?kB ?kD ?_ ?c2 ?c3 ?c4; (case kA => exact rfl); (case kF => assumption); (case kK => assumption); (case k1 => k_asm); (case k2 => k_asm); (case k3 => k_asm); (case k4 => k_asm); (case k5 => k_asm); (case k6 => k_is); (case k7 => k_is); (case k8 => ktr_room); (case k9 => exact BindsTo.of_eq rfl); (case kB => exact rfl); (case kD => decide +kernel); (case c2 => exact rfl); (case c3 => exact rfl); (case c4 => exact rfl); k_whole; intro g' L' h' tk' cells' S' FG' F' N' Y' B' X' T' l1; (try k_lt l1); k_cells Y'; (try simp only [List.cons_append, List.nil_append] at N'); (try dsimp only); (try k_lift B'); (try k_fold)))
    k_with "ite" => (k_closed; first | refine ite_pos (by decide +kernel) ?_ | refine ite_neg (by decide +kernel) ?_)
    k_with "RELR" => (
      (case B => k_asm); (case F => k_asm); (case X => k_asm); (case N => k_asm); (case T => k_asm); (case hf => exact rfl); (case hk => first | exact rfl | assumption); (case hd => ktr_room); (case hu => ktr_units);
      (case P => k_allIn);
      k_whole)
    k_with "subscriptTail Name Constant ref int" => (k_here; k_dflt (refine' item_tupleT (News.isTup ?itn ?itt) ?ita ?itb ?itc ?itd ?_; (case itn => k_asm); (case itt => with_reducible assumption); (case ita => decide); (case itb => decide); (case itc => exact rfl); (case itd => exact rfl); k_whole))
    k_with "MEM3" => (exact List.forall_mem_cons.mpr ⟨by k_memK, List.forall_mem_cons.mpr ⟨by k_memK, List.forall_mem_cons.mpr ⟨by k_memK, List.forall_mem_nil _⟩⟩⟩)
    k_with "compareOp NotEq bytes bytes" => (k_here; k_dflt (refine' by_ne ?pa ?pb ?_; (case pa => with_reducible assumption); (case pb => with_reducible assumption)))
    k_with "callWith ref" => (k_here; k_dflt (refine' callWith_K ?k1 ?k2 ?_; (case k1 => k_asm); (case k2 => k_is); k_whole))
    k_with "RELC" => ((case B => k_asm); (case F => k_asm); (case X => k_asm); (case N => k_asm); (case T => k_asm); (case hf => exact rfl); (case hk => first | exact rfl | assumption); (case hd => ktr_room); (case hu => ktr_units); (case hc => assumption))
    k_with "INN" => ((repeat (refine List.forall_mem_cons.mpr ?_; refine And.intro (by k_memK) ?_)); (first | exact List.forall_mem_nil _ | (intro q hq; k_ownIn)))
    k_with "PLAW" => (exact List.forall_mem_cons.mpr ⟨by k_memK, List.forall_mem_cons.mpr ⟨by k_memK, List.forall_mem_cons.mpr ⟨by k_memK, List.forall_mem_cons.mpr ⟨by k_memK, List.forall_mem_cons.mpr ⟨by k_memK, fun q hq => hq⟩⟩⟩⟩⟩)
    k_with "OPO" => (first | exact OpO.zero | exact OpO.space | exact OpO.high | exact OpO.text rfl (by decide) (by decide) | exact OpO.text (by assumption) (by simp) (by simp))
    k_with "ROWA" => (exact rowMk (k := .all) (opIn (by k_memK) (by walk_at "OPO")) (by k_memK) (by walk_at "OPO") OpIn.none OpIn.none (by constructor <;> intro h <;> cases h) rfl)
    k_with "PLAW2" => (exact List.forall_mem_cons.mpr ⟨by k_memK, List.forall_mem_cons.mpr ⟨by k_memK, List.forall_mem_cons.mpr ⟨by k_memK, List.forall_mem_cons.mpr ⟨by k_memK, List.forall_mem_cons.mpr ⟨by k_memK, List.forall_mem_cons.mpr ⟨by k_memK, fun q hq => hq⟩⟩⟩⟩⟩⟩)
    k_with "newList" => (k_here; k_dflt (refine' newList_K ?k1 ?k2 ?_ ?k3; (case k1 => k_asm); (case k2 => k_asm); (case k3 => (rw [PySem.sizeLine_eq]; exact Nat.le_of_ble_eq_true rfl)); k_whole); intro l' h' F' N' l1; (try k_lt l1); (try k_sweep))
    k_with "callWith builtin:list.append" => ((k_dflt (refine' callWith_method1 ?_ ?pe ?pp)); (case pe => with_unfolding_all rfl); (case pp => with_unfolding_all rfl))
    k_with "k_lt" => (skip)
    k_with "k_ne" => (refine neN ?_; (try dsimp only); first | assumption | exact Ne.symm (by assumption) | exact ne_l (by assumption) (by k_memK) | exact Ne.symm (ne_l (by assumption) (by k_memK)) | omega)
    k_with "eval ListComp" => (k_here; k_dflt (refine LCt.ListComp_T (F₀ := by k_asm) (by with_unfolding_all rfl) (by decide) (by rfl) (by decide) (by rfl) ?_))
    k_with "OPIN" => (first | exact OpIn.none | exact opIn (by k_memK) (by walk_at "OPO"))
    k_with "ROWG" => (exact rowMk (by walk_at "OPIN") (by k_memK) (by walk_at "OPO") (by walk_at "OPIN") (by walk_at "OPIN") (by constructor <;> intro h <;> first | rfl | cases h) (by decide))
    k_with "PART" => (repeat' (first | exact Part.nil | exact Part.take Part.nil | apply Part.skip))
    k_with "ALLNE" => (repeat' (first | exact List.forall_mem_nil _ | (refine List.forall_mem_cons.mpr ?_; refine And.intro (by k_ne) ?_)))
    k_with "compareOp Eq ref ref" => (k_here; k_dflt (refine' by_eql ?pn ?pa ?pb ?pu ?_; (case pn => k_asm); (case pa => exact List.Mem.tail _ (List.Mem.head _)); (case pb => exact List.Mem.head _); (case pu => ktr_units)))
    k_with "ROWW" => ((case m1 => k_memK); (case mra => k_memK); (case mr1 => k_memK); (case hr => walk_at "ROWG"); (case ho => exact rfl); (case lo => decide); (case hd => decide +kernel))
    k_with "CompSrcT" => k_dflt (
      (refine LCt.CompSrcT.ledger (by rfl) (by k_asm) (by k_asm) (by k_mem) (by (rw [PySem.sizeLine_eq]; exact Nat.le_of_ble_eq_true rfl)) ?_); intro g';
      k_dflt (refine' comp_invW (p := p) (loose := loose) (mean := mean) (mg := mg) (mb := mb) ?hp ?ha ?hn ?rows ?turn ?fin);
      (case hp => walk_at "PART"); (case ha => k_memK); (case hn => exact Nat.le_of_ble_eq_true rfl);
      (case rows => (refine' six (by rfl) ?w0 ?w1 ?w2 ?w3 ?w4 ?w5; (case w0 => (refine' rowW_0 (os := [48, 50, 48, 51]) (row := leadRow .zero (.text [42])) ?ho ?lo ?hd ?hp ?hY ?m1 ?mra ?mr1 ?hr; (case hp => walk_at "PART"); (case hY => walk_at "ALLNE"); walk_at "ROWW")); (case w1 => (refine' rowW_1 (os := [48, 48, 48, 48]) (row := leadRow .zero .space) (Nat.succ_pos _) ?ho ?lo ?hd ?m1 ?mra ?mr1 ?hr; walk_at "ROWW")); (case w2 => (refine' rowW_1 (os := [48, 50, 48, 50]) (row := allRow (.text [48, 50]) .high none none) (Nat.succ_pos _) ?ho ?lo ?hd ?m1 ?mra ?mr1 ?hr; walk_at "ROWW")); (case w3 => (refine' rowW_1 (os := [49, 50, 46, 53]) (row := ⟨.chars, none, .zero, none, some (.text [46])⟩) (Nat.succ_pos _) ?ho ?lo ?hd ?m1 ?mra ?mr1 ?hr; walk_at "ROWW")); (case w4 => (refine' rowW_2 (os := [49, 50, 49, 50]) (row := ⟨.first, some (.text [50]), .zero, none, some (.text [50])⟩) (row2 := ⟨.all, some (.text [49]), .text [42], some (.text [50, 49]), none⟩) (Nat.succ_pos _) ?ho ?lo ?hd ?m1 ?mra ?mr1 ?mr2 ?hr ?hr2; walk_at "ROWW"; (case mr2 => k_memK); (case hr2 => walk_at "ROWG"))); (case w5 => (refine' rowW_2 (os := [48, 48, 55, 48, 48]) (row := ⟨.lead, some .zero, .space, some (.text [55]), none⟩) (row2 := ⟨.all, some .zero, .text [42], none, some (.text [55])⟩) (Nat.succ_pos _) ?ho ?lo ?hd ?m1 ?mra ?mr1 ?mr2 ?hr ?hr2; walk_at "ROWW"; (case mr2 => k_memK); (case hr2 => walk_at "ROWG")))));
      (case' turn => (intro i Y I' oI' C' oC' D' m' h' tk' E' a ra o t1 du t2 c due hdu hmY hPY hTC hC' hx' F' N' off' ne'; obtain ⟨_, _, _⟩ := ne'; (have hmN := List.mem_cons_of_mem (I', oI') (List.mem_cons_of_mem (C', oC') (List.mem_cons_of_mem (D', LCg.lst []) hmY))); (try dsimp only)));
      (case' fin => (intro D' h' tk' cA' ocA' cB' ocB' hA' hB' F' N'; (try dsimp only))))
    k_with "k_mem" => (with_reducible assumption)
    k_with "CompEnd" => k_dflt ((rename News _ _ _ _ => nE'); refine LCg.CompEnd.intro (by with_reducible assumption) nE' _ (fun q hq => hq) off' True.intro po')
    k_with "my call" => (
      (with_reducible show wpAny _ _ (call (Value.ref 240) _) _ _ _)
      (rename News _ _ _ _ => lN')
      k_dflt (refine' TurnC.use hTC ?B ?F ?X lN' off' ?T ?hf ?hk ?hd ?hu ?hc ?_; (case B => k_asm); (case F => k_asm); (case X => k_asm); (case T => k_asm); (case hf => exact rfl); (case hk => first | exact rfl | assumption); (case hd => ktr_room); (case hu => ktr_units); (case hc => assumption); k_whole)
      intro r' Y' h' tk' F' N' off' po' hbv'; obtain ⟨bq', tq', eq', hz'⟩ := BV.el hbv'; subst eq'; (have hmN' := List.mem_cons_of_mem (I', oI') (List.mem_cons_of_mem (C', oC') (List.mem_cons_of_mem (D', LCg.lst []) (hPY Y' po')))); clear lN'; k_sweep; (try dsimp only))
    intro dp un gd env outer A₀ base h₀ L m s Q E B F X N T hfr hk hd hu hc hret
    cell_step
    repeat' (first | (k_unfold; (try dsimp only)) | walk1 | (dsimp only; walk1) | (leave1; try dsimp only) | fail "no step")
    refine hret _ [(235, lamTab cA' cB'), (cA', ocA'), (cB', ocB')] _ _ ?ea ?eb ?ec ⟨rfl, cA', ocA', cB', ocB', hA', hB', rfl⟩
    case ea => k_asm
    (rename News _ _ _ _ => nE')
    case eb => exact News.sub nE' (by walk_at "MEM3")
    case ec =>
      refine Back.sub (led := ?l9) ?b9 ?c9
      case b9 =>
        refine Stays.back (g := ?g9) (L := ?L9) (m := ?m9) ?x1 ?x2 ?x3
        case x1 => with_reducible assumption
        case x3 => with_reducible assumption
        case x2 => with_reducible assumption
      case c9 => walk_at "MEM3"
  case F9 =>
    intros h9
    k_with_none
    conv at h9 => skip
    conv at h9 => zeta
    exact @ofTag _ _ (tag_triv : type_of% h9)))
end
end SWr
section SNou
section
variable {prog : Program} {w : World} {p : Program} {loose : List Str} {mean : ExcName → Option Value} {mg mb : Str → Option Value}
set_option maxRecDepth 100000 in
set_option maxHeartbeats 8000000 in
theorem noughts_ok {cA cB : Addr} {ocA ocB : Obj} {number : Int} {width : Nat} {t1 t2 : Tok} (hA : LamC ocA) (hB : LamC ocB) (h0 : 0 ≤ number) (h1 : number < ((10 ^ width : Nat) : Int)) (hw : 1 ≤ width ∧ width ≤ 9) :
    CallOkC prog w p loose mean mg mb 16 600 (.ref 259) [.int number t1, .int (width : Int) t2] [(235, lamTab cA cB), (cA, ocA), (cB, ocB)] (fun r led => led = [(235, lamTab cA cB), (cA, ocA), (cB, ocB)] ∧ r = .bool true) :=
  @ofTag _ _ (by exact tag_triv : Tag (by
  k_with_none
  w_top off
  k_with "ne9" => (first | exact ne_Nat | exact ne_Heap | exact ne_Value | exact ne_Str | exact ne_Int | exact ne_Env | exact ne_Shared | exact ne_Around | exact ne_Program | exact ne_World | exact ne_List | exact ne_Option | exact ne_Arr | exact ne_Obj | exact ne_FuncData | exact ne_prod ne_Nat ne_Obj | exact ne_fun ne_Prop | exact ne_fun (ne_fun ne_Prop) | exact ne_fun ne_Option | exact ⟨Kd.chars⟩ | exact ⟨Opd.zero⟩ | (refine ⟨?_⟩; exact default) | (refine ⟨?_⟩; constructor <;> (first | exact default | exact Kd.chars | exact Opd.zero | exact tupOf #[] 0)))
  revert prog w p loose mean mg mb cA cB ocA ocB number width t1 t2 hA hB h0 h1 hw
  refine no_implicit_lambda% ((?F9 : @Tag ?T9 (?prf9 : ?T9) → ?T9) tag_triv)
  case prf9 =>
    intro prog w p loose mean mg mb cA cB ocA ocB number width t1 t2 hA hB h0 h1 hw
    k_with_none
    k_with "ne9" => (first | exact ne_Nat | exact ne_Heap | exact ne_Value | exact ne_Str | exact ne_Int | exact ne_Env | exact ne_Shared | exact ne_Around | exact ne_Program | exact ne_World | exact ne_List | exact ne_Option | exact ne_Arr | exact ne_Obj | exact ne_FuncData | exact ne_prod ne_Nat ne_Obj | exact ne_fun ne_Prop | exact ne_fun (ne_fun ne_Prop) | exact ne_fun ne_Option | exact ⟨Kd.chars⟩ | exact ⟨Opd.zero⟩ | (refine ⟨?_⟩; exact default) | (refine ⟨?_⟩; constructor <;> (first | exact default | exact Kd.chars | exact Opd.zero | exact tupOf #[] 0)))
    k_with "k_lt_skip" => skip
    k_with "k_all" => (first | (with_reducible assumption) | exact all_ne (by with_reducible assumption) (by intro q hq; k_ownIn))
    k_with "k_ne" => (first | exact ne_l (by with_reducible assumption) (by k_memK) | exact Ne.symm (ne_l (by with_reducible assumption) (by k_memK)) | exact ne_l1 (by with_reducible assumption) (by k_memK) | exact ne_l2 (by with_reducible assumption) (by k_memK) | exact ne_l3 (by with_reducible assumption) (by k_memK) | exact Ne.symm (ne_l1 (by with_reducible assumption) (by k_memK)) | exact Ne.symm (ne_l2 (by with_reducible assumption) (by k_memK)))
    k_with "room" => (first | exact rm0 (by with_reducible assumption) | exact rm1 (by with_reducible assumption) (by decide) | exact rm2 (by with_reducible assumption) (by decide) | exact rm3 (by with_reducible assumption) (by decide))
    k_with "units" => (first | exact rm0 (by with_reducible assumption) | exact rm1 (by with_reducible assumption) (by decide) | exact rm2 (by with_reducible assumption) (by decide) | exact rm3 (by with_reducible assumption) (by decide))
    k_with "ktu_obj" => (refine AllObj.cons ?_; intro o' hc'; (try dsimp only at hc'))
    k_with "ItemsRest" => (first | ((with_unfolding_all refine ItemsRest.val ?_); intro h' tk' F'; ktu_objs) | ((with_unfolding_all refine ItemsRest.pair ?_); intro T' t' h' tk' hT' F'; (try dsimp only at hT'); ktu_objs) | ((with_unfolding_all refine ItemsRest.tok ?_); intro t' h' tk' F'; (try dsimp only); ktu_objs) | ((with_unfolding_all refine ItemsRest.zero ?_); intro h' tk' F' N'))
    k_with "call ref" => (k_extra "my call")
    k_with "pyIter ref" => (k_extra "my loop")
    k_with "exec While Compare" => (k_dflt (k_extra "my while"))
    k_with "exec While BoolOp" => (k_dflt (k_extra "my while"))
    k_with "STEPC" => (refine wpAny_call ?_; k_dflt (refine' code_hereC ?k1 ?k2 ?k3 ?k4 ?k5 ?kA ?kF ?kK ?k6 ?k7 ?k8 ?k9 ?kB ?kD ?_ ?c2 ?c3 ?c4; (case kA => exact rfl); (case kF => assumption); (case kK => assumption); (case k1 => k_asm); (case k2 => k_asm); (case k3 => k_asm); (case k4 => k_asm); (case k5 => k_asm); (case k6 => k_is); (case k7 => k_is); (case k8 => ktr_room); (case k9 => exact BindsTo.of_eq rfl); (case kB => exact rfl); (case kD => decide +kernel); (case c2 => exact rfl); (case c3 => exact rfl); (case c4 => exact rfl); k_whole; intro g' L' h' tk' cells' S' FG' F' N' Y' B' X' T' l1; (try k_lt l1); k_cells Y'; (try simp only [List.cons_append, List.nil_append] at N'); (try dsimp only); (try k_lift B'); (try k_fold)))
    k_with "ite" => (k_closed; first | refine ite_pos (by decide +kernel) ?_ | refine ite_neg (by decide +kernel) ?_)
    k_with "RELR" => (
      (case B => k_asm); (case F => k_asm); (case X => k_asm); (case N => k_asm); (case T => k_asm); (case hf => exact rfl); (case hk => first | exact rfl | assumption); (case hd => ktr_room); (case hu => ktr_units);
      (case P => k_allIn);
      k_whole)
    k_with "callWith ref" => (k_here; k_dflt (refine' callWith_K ?k1 ?k2 ?_; (case k1 => k_asm); (case k2 => k_is); k_whole))
    k_with "RELC" => ((case B => k_asm); (case F => k_asm); (case X => k_asm); (case N => k_asm); (case T => k_asm); (case hf => exact rfl); (case hk => first | exact rfl | assumption); (case hd => ktr_room); (case hu => ktr_units); (case hc => assumption))
    k_with "INN" => ((repeat (refine List.forall_mem_cons.mpr ?_; refine And.intro (by k_memK) ?_)); (first | exact List.forall_mem_nil _ | (intro q hq; k_ownIn)))
    k_with "binaryOp Mod int int" => (k_here; (refine' mod_rest ?pa ?pb ?_; (case pa => decide); (case pb => decide)))
    k_with "binaryOp FloorDiv int int" => (k_here; (refine' div_rest ?pa ?pb ?_; (case pa => decide); (case pb => decide)))
    k_with "call type:bytes" => (k_here; k_dflt (refine' by_make ?kbaF ?kbaN ?kbah ?kbal ?kbai ?kbar ?kban ?_; (case kbaF => k_asm); (case kbaN => k_asm); (case kbah => rfl); (case kbal => kba_isList); (case kbai => kba_listInts); (case kbar => exact List.forall_mem_cons.mpr ⟨by constructor <;> omega, List.forall_mem_nil _⟩); (case kban => exact Nat.le_of_ble_eq_true rfl)); intro hz' bz' tz' kz' F' N' hz'; (try k_sweep))
    k_with "binaryOp Add bytes bytes" => (k_here; (refine' by_add ?pa ?pb ?pc ?pd ?_; (case pa => assumption); (case pb => assumption); (case pc => ((try simp only [List.length_append, List.length_replicate, List.length_cons, List.length_nil]); omega)); (case pd => ((try simp only [List.length_append, List.length_replicate, List.length_cons, List.length_nil]); omega))); intro bz' tz' kz' hz')
    k_with "binaryOp Mult bytes int" => (k_here; (refine' by_mul ?py ?pa ?pb ?_; (case py => exact rfl); (case pa => omega); (case pb => omega)); intro bz' tz' kz' hz'; (first | (replace hz' : KBw.bInts bz' = List.replicate _ (48 : Int) := hz') | (replace hz' : KBw.bInts bz' = List.replicate _ (42 : Int) := hz') | (replace hz' : KBw.bInts bz' = List.replicate _ (32 : Int) := hz')))
    k_with "compareOp NotEq bytes bytes" => (k_here; (refine' by_ne ?pa ?pb ?_; (case pa => assumption); (case pb => assumption)))
    k_with "compareOp Eq bytes bytes" => (k_here; (refine' by_eq ?pa ?pb ?_; (case pa => assumption); (case pb => assumption)))
    k_with "call builtin:len" => (k_here; (refine' by_len ?pa ?pb ?_; (case pa => assumption); (case pb => omega)))
    k_with "PLAW" => (exact List.forall_mem_cons.mpr ⟨by k_memK, List.forall_mem_cons.mpr ⟨by k_memK, List.forall_mem_cons.mpr ⟨by k_memK, List.forall_mem_cons.mpr ⟨by k_memK, List.forall_mem_cons.mpr ⟨by k_memK, fun q hq => hq⟩⟩⟩⟩⟩)
    k_with "OPO" => (first | exact OpO.zero | exact OpO.space | exact OpO.high | exact OpO.text rfl (by decide) (by decide))
    k_with "ROWL" => (exact rowMk (k := .lead) (opIn (by k_memK) (by walk_at "OPO")) (by k_memK) (by walk_at "OPO") OpIn.none OpIn.none (by constructor <;> intro h <;> cases h) (by decide))
    k_with "my call" => (
      (with_reducible show wpAny _ _ (call (Value.ref 240) _) _ _ _)
      k_dflt (refine' CallOkC.useR (lawR1 (row := leadRow .zero (.text [42])) ?ho ?lo hA hB ?hr) ?B ?F ?X ?N ?T ?hf ?hk ?hd ?hu ?hc ?P ?_; walk_at "RELC"; (case ho => assumption); (case lo => ((try simp only [List.length_append, List.length_replicate, List.length_cons, List.length_nil]); omega)); (case P => walk_at "PLAW"); (case hr => walk_at "ROWL"); k_whole)
      intro r' h' tk' F' N' po'; obtain ⟨bq', tq', eq', hz'⟩ := BV.el po'; subst eq'; rw [lead_law (a := 48) (b := 42) rfl rfl (hnf.head48 hol (by omega))] at hz'; k_sweep; (try dsimp only))
    k_with "my call" => (
      (with_reducible show wpAny _ _ (call (Value.ref 240) _) _ _ _)
      k_dflt (refine' CallOkC.useR (lawR1 (row := leadRow (.text [42]) .space) ?ho ?lo hA hB ?hr) ?B ?F ?X ?N ?T ?hf ?hk ?hd ?hu ?hc ?P ?_; walk_at "RELC"; (case ho => assumption); (case lo => ((try simp only [List.length_append, List.length_replicate, List.length_cons, List.length_nil]); omega)); (case P => walk_at "PLAW"); (case hr => walk_at "ROWL"); k_whole)
      intro r' h' tk' F' N' po'; obtain ⟨bq', tq', eq', hz'⟩ := BV.el po'; subst eq'; rw [lead_law (a := 42) (b := 32) rfl rfl (hnf.headne hol (.inl (by decide)))] at hz'; k_sweep; (try dsimp only))
    k_with "my call" => (
      (with_reducible show wpAny _ _ (call (Value.ref 240) _) _ _ _)
      k_dflt (refine' CallOkC.useR (lawR1 (row := leadRow .space .zero) ?ho ?lo hA hB ?hr) ?B ?F ?X ?N ?T ?hf ?hk ?hd ?hu ?hc ?P ?_; walk_at "RELC"; (case ho => assumption); (case lo => ((try simp only [List.length_append, List.length_replicate, List.length_cons, List.length_nil]); omega)); (case P => walk_at "PLAW"); (case hr => walk_at "ROWL"); k_whole)
      intro r' h' tk' F' N' po'; obtain ⟨bq', tq', eq', hz'⟩ := BV.el po'; subst eq'; rw [lead_law (a := 32) (b := 48) rfl rfl (hnf.headne hol (.inl (by decide)))] at hz'; k_sweep; (try dsimp only))
    k_with "my while" => (
      (rename Fr _ _ _ _ => lF'); (rename News _ _ _ _ => lN');
      (with_unfolding_all refine' ksw_while (σ := NW) (fun _ => _) (fun c => [(Str.ofString "own", Value.bytes c.own c.to), (Str.ofString "rest", Value.int c.rest c.tr)]) (fun _ => True) [] (fun c => NF width c.own c.rest) (fun c => c.rest.toNat) ⟨#[], _, number, t1⟩ lF' lN' True.intro ?hk ⟨Nat.zero_le _, h0, h1, (by intro x hx; cases hx), (by intro _ h; cases h)⟩ ?turn);
      (case hk => (intro q hq; rcases List.mem_cons.mp hq with rfl | hq; k_dflt (exact rfl); rcases List.mem_cons.mp hq with rfl | hq; k_dflt (exact rfl); cases hq));
      (clear lF' lN');
      (intro zz8 u h tk zz7 hnf F' N'; obtain ⟨own, uto, rest, utr⟩ := zz8); (try dsimp only at hnf N' F'); (have hlen := hnf.len); (have hlo := hnf.lo); (generalize hol : KBw.bInts own = ol at hlen); (have hm0 := Int.emod_nonneg rest (show (10 : Int) ≠ 0 by decide)); (have hm1 := Int.emod_lt_of_pos rest (show (0 : Int) < 10 by decide)); (try k_fold))
    intro dp un gd env outer A₀ base h₀ L m s Q E B F X N T hfr hk hd hu hc hret
    cell_step
    k_steps
    · have hpos : 0 < rest := by assumption
      rename News _ _ _ _ => nE'
      rename (KBw.bInts _ = _ ++ _) => hzz
      refine ksw_end ⟨?wo, ?wt, rest / 10, ?wr⟩ (by with_reducible assumption) nE' ?hn True.intro ?hk ?hr ?hp ?hm
      case hn => walk_at "INN"
      case hk => intro q hq; rcases List.mem_cons.mp hq with rfl | hq; exact rfl; rcases List.mem_cons.mp hq with rfl | hq; exact rfl; cases hq
      case hr =>
        intro z h2 h3
        have h2' := h2 _ (List.Mem.head _)
        have h2'' := h2 _ (List.Mem.tail _ (List.Mem.head _))
        dsimp only at h2' h2''
        simp [kstB, h2', h2'']
      case hp => exact hnf.step hol hpos hzz
      case hm => show (rest / 10).toNat < rest.toNat; omega
    · exact hret _ _ _ _ (by k_asm) (News.sub (by assumption) (by walk_at "INN")) (Back.sub (Stays.back (by assumption) (by assumption) (by assumption)) (by walk_at "INN")) ⟨rfl, rfl⟩
  case F9 =>
    intros h9
    k_with_none
    conv at h9 => skip
    conv at h9 => zeta
    exact @ofTag _ _ (tag_triv : type_of% h9)))
end
end SNou
section SSwap
section
variable {prog : Program} {w : World} {p : Program} {loose : List Str} {mean : ExcName → Option Value} {mg mb : Str → Option Value}
set_option maxRecDepth 100000 in
set_option maxHeartbeats 8000000 in
theorem swapped_ok {cA cB : Addr} {ocA ocB : Obj} {o one other : Array UInt8} {os : Oct} {a b : Int} {t1 t2 t3 : Tok} (hA : LamC ocA) (hB : LamC ocB) (ho : KBw.bInts o = os) (lo : os.length ≤ 64) (h1 : KBw.bInts one = [a]) (h2 : KBw.bInts other = [b]) (hab : a ≠ b) :
    CallOkC prog w p loose mean mg mb 16 600 (.ref 264) [.bytes o t1, .bytes one t2, .bytes other t3] [(235, lamTab cA cB), (cA, ocA), (cB, ocB)] (fun r led => led = [(235, lamTab cA cB), (cA, ocA), (cB, ocB)] ∧ r = .bool true) :=
  @ofTag _ _ (by exact tag_triv : Tag (by
  k_with_none
  w_top off
  k_with "ne9" => (first | exact ne_Nat | exact ne_Heap | exact ne_Value | exact ne_Str | exact ne_Int | exact ne_Env | exact ne_Shared | exact ne_Around | exact ne_Program | exact ne_World | exact ne_List | exact ne_Option | exact ne_Arr | exact ne_Obj | exact ne_FuncData | exact ne_prod ne_Nat ne_Obj | exact ne_fun ne_Prop | exact ne_fun (ne_fun ne_Prop) | exact ne_fun ne_Option | exact ⟨Kd.chars⟩ | exact ⟨Opd.zero⟩ | (refine ⟨?_⟩; exact default) | (refine ⟨?_⟩; constructor <;> (first | exact default | exact Kd.chars | exact Opd.zero | exact tupOf #[] 0)))
  revert prog w p loose mean mg mb cA cB ocA ocB o one other os a b t1 t2 t3 hA hB ho lo h1 h2 hab
  refine no_implicit_lambda% ((?F9 : @Tag ?T9 (?prf9 : ?T9) → ?T9) tag_triv)
  case prf9 =>
    intro prog w p loose mean mg mb cA cB ocA ocB o one other os a b t1 t2 t3 hA hB ho lo h1 h2 hab
    k_with_none
    k_with "ne9" => (first | exact ne_Nat | exact ne_Heap | exact ne_Value | exact ne_Str | exact ne_Int | exact ne_Env | exact ne_Shared | exact ne_Around | exact ne_Program | exact ne_World | exact ne_List | exact ne_Option | exact ne_Arr | exact ne_Obj | exact ne_FuncData | exact ne_prod ne_Nat ne_Obj | exact ne_fun ne_Prop | exact ne_fun (ne_fun ne_Prop) | exact ne_fun ne_Option | exact ⟨Kd.chars⟩ | exact ⟨Opd.zero⟩ | (refine ⟨?_⟩; exact default) | (refine ⟨?_⟩; constructor <;> (first | exact default | exact Kd.chars | exact Opd.zero | exact tupOf #[] 0)))
    k_with "k_lt_skip" => skip
    k_with "k_all" => (first | (with_reducible assumption) | exact all_ne (by with_reducible assumption) (by intro q hq; k_ownIn))
    k_with "k_ne" => (first | exact ne_l (by with_reducible assumption) (by k_memK) | exact Ne.symm (ne_l (by with_reducible assumption) (by k_memK)) | exact ne_l1 (by with_reducible assumption) (by k_memK) | exact ne_l2 (by with_reducible assumption) (by k_memK) | exact ne_l3 (by with_reducible assumption) (by k_memK) | exact Ne.symm (ne_l1 (by with_reducible assumption) (by k_memK)) | exact Ne.symm (ne_l2 (by with_reducible assumption) (by k_memK)))
    k_with "room" => (first | exact rm0 (by with_reducible assumption) | exact rm1 (by with_reducible assumption) (by decide) | exact rm2 (by with_reducible assumption) (by decide) | exact rm3 (by with_reducible assumption) (by decide))
    k_with "units" => (first | exact rm0 (by with_reducible assumption) | exact rm1 (by with_reducible assumption) (by decide) | exact rm2 (by with_reducible assumption) (by decide) | exact rm3 (by with_reducible assumption) (by decide))
    k_with "ktu_obj" => (refine AllObj.cons ?_; intro o' hc'; (try dsimp only at hc'))
    k_with "ItemsRest" => (first | ((with_unfolding_all refine ItemsRest.val ?_); intro h' tk' F'; ktu_objs) | ((with_unfolding_all refine ItemsRest.pair ?_); intro T' t' h' tk' hT' F'; (try dsimp only at hT'); ktu_objs) | ((with_unfolding_all refine ItemsRest.tok ?_); intro t' h' tk' F'; (try dsimp only); ktu_objs) | ((with_unfolding_all refine ItemsRest.zero ?_); intro h' tk' F' N'))
    k_with "call ref" => (k_extra "my call")
    k_with "pyIter ref" => (k_extra "my loop")
    k_with "exec While Compare" => (k_dflt (k_extra "my while"))
    k_with "exec While BoolOp" => (k_dflt (k_extra "my while"))
    k_with "STEPC" => (refine wpAny_call ?_; k_dflt (refine' code_hereC ?k1 ?k2 ?k3 ?k4 ?k5 ?kA ?kF ?kK ?k6 ?k7 ?k8 ?k9 ?kB ?kD ?_ ?c2 ?c3 ?c4; (case kA => exact rfl); (case kF => assumption); (case kK => assumption); (case k1 => k_asm); (case k2 => k_asm); (case k3 => k_asm); (case k4 => k_asm); (case k5 => k_asm); (case k6 => k_is); (case k7 => k_is); (case k8 => ktr_room); (case k9 => exact BindsTo.of_eq rfl); (case kB => exact rfl); (case kD => decide +kernel); (case c2 => exact rfl); (case c3 => exact rfl); (case c4 => exact rfl); k_whole; intro g' L' h' tk' cells' S' FG' F' N' Y' B' X' T' l1; (try k_lt l1); k_cells Y'; (try simp only [List.cons_append, List.nil_append] at N'); (try dsimp only); (try k_lift B'); (try k_fold)))
    k_with "ite" => (k_closed; first | refine ite_pos (by decide +kernel) ?_ | refine ite_neg (by decide +kernel) ?_)
    k_with "RELR" => (
      (case B => k_asm); (case F => k_asm); (case X => k_asm); (case N => k_asm); (case T => k_asm); (case hf => exact rfl); (case hk => first | exact rfl | assumption); (case hd => ktr_room); (case hu => ktr_units);
      (case P => k_allIn);
      k_whole)
    k_with "callWith ref" => (k_here; k_dflt (refine' callWith_K ?k1 ?k2 ?_; (case k1 => k_asm); (case k2 => k_is); k_whole))
    k_with "RELC" => ((case B => k_asm); (case F => k_asm); (case X => k_asm); (case N => k_asm); (case T => k_asm); (case hf => exact rfl); (case hk => first | exact rfl | assumption); (case hd => ktr_room); (case hu => ktr_units); (case hc => assumption))
    k_with "INN" => ((repeat (refine List.forall_mem_cons.mpr ?_; refine And.intro (by k_memK) ?_)); (first | exact List.forall_mem_nil _ | (intro q hq; k_ownIn)))
    k_with "binaryOp Mod int int" => (k_here; (refine' mod_rest ?pa ?pb ?_; (case pa => decide); (case pb => decide)))
    k_with "binaryOp FloorDiv int int" => (k_here; (refine' div_rest ?pa ?pb ?_; (case pa => decide); (case pb => decide)))
    k_with "call type:bytes" => (k_here; k_dflt (refine' by_make ?kbaF ?kbaN ?kbah ?kbal ?kbai ?kbar ?kban ?_; (case kbaF => k_asm); (case kbaN => k_asm); (case kbah => rfl); (case kbal => kba_isList); (case kbai => kba_listInts); (case kbar => first | exact List.forall_mem_cons.mpr ⟨by constructor <;> omega, List.forall_mem_nil _⟩ | k_extra "rng"); (case kban => first | exact Nat.le_of_ble_eq_true rfl | ((simp only [List.length_map]); omega))); intro hz' bz' tz' kz' F' N' hz'; (try k_sweep))
    k_with "binaryOp Add bytes bytes" => (k_here; (refine' by_add ?pa ?pb ?pc ?pd ?_; (case pa => assumption); (case pb => assumption); (case pc => ((try simp only [List.length_append, List.length_replicate, List.length_cons, List.length_nil]); omega)); (case pd => ((try simp only [List.length_append, List.length_replicate, List.length_cons, List.length_nil]); omega))); intro bz' tz' kz' hz')
    k_with "binaryOp Mult bytes int" => (k_here; (refine' by_mul ?py ?pa ?pb ?_; (case py => exact rfl); (case pa => omega); (case pb => omega)); intro bz' tz' kz' hz'; (first | (replace hz' : KBw.bInts bz' = List.replicate _ (48 : Int) := hz') | (replace hz' : KBw.bInts bz' = List.replicate _ (42 : Int) := hz') | (replace hz' : KBw.bInts bz' = List.replicate _ (32 : Int) := hz')))
    k_with "compareOp NotEq bytes bytes" => (k_here; (refine' by_ne ?pa ?pb ?_; (case pa => assumption); (case pb => assumption)))
    k_with "compareOp Eq bytes bytes" => (k_here; (refine' by_eq ?pa ?pb ?_; (case pa => assumption); (case pb => assumption)))
    k_with "call builtin:len" => (k_here; (refine' by_len ?pa ?pb ?_; (case pa => assumption); (case pb => omega)))
    k_with "PLAW" => (exact List.forall_mem_cons.mpr ⟨by k_memK, List.forall_mem_cons.mpr ⟨by k_memK, List.forall_mem_cons.mpr ⟨by k_memK, List.forall_mem_cons.mpr ⟨by k_memK, List.forall_mem_cons.mpr ⟨by k_memK, fun q hq => hq⟩⟩⟩⟩⟩)
    k_with "OPO" => (first | exact OpO.zero | exact OpO.space | exact OpO.high | exact OpO.text rfl (by decide) (by decide) | exact OpO.text (by assumption) (by simp) (by simp))
    k_with "ROWA" => (exact rowMk (k := .all) (opIn (by k_memK) (by walk_at "OPO")) (by k_memK) (by walk_at "OPO") OpIn.none OpIn.none (by constructor <;> intro h <;> cases h) rfl)
    k_with "PLAW2" => (exact List.forall_mem_cons.mpr ⟨by k_memK, List.forall_mem_cons.mpr ⟨by k_memK, List.forall_mem_cons.mpr ⟨by k_memK, List.forall_mem_cons.mpr ⟨by k_memK, List.forall_mem_cons.mpr ⟨by k_memK, List.forall_mem_cons.mpr ⟨by k_memK, fun q hq => hq⟩⟩⟩⟩⟩⟩)
    k_with "eval Dict" => (k_here; k_dflt (refine' kdn_eval (knd := PySem.intKind _ _) ?F ?N ?b ?a ?l ?e ?n ?_; (case F => k_asm); (case N => k_asm); (case b => exact Top.nolimit (by k_asm)); (case a => rfl); (case l => rfl); (case e => exact List.cons_ne_nil _ _); (case n => exact Nat.le_of_ble_eq_true rfl)); intro d' h' o' F' N' l1 lo' hd'; (try k_lt l1))
    k_with "KdnMade" => (k_here; k_dflt (refine' kdn_made_int ?F ?N ?U ?d ?k ?n ?_; (case F => k_asm); (case N => k_asm); (case U => k_updF); (case d => k_asm); (case k => rfl); (case n => (simp [intKeyPairs]; omega)); intro h' o' F' N' hd'); (try dsimp only at N'))
    k_with "subscriptTail" => (k_here; (with_reducible show wpAny _ _ (subscriptTail _ _ (Value.bytes _ _) (Value.int _ _)) _ _ _); (refine' by_item ?pa ?pb ?pc ?pd ?_; (case pa => assumption); (case pb => exact Nat.le_of_ble_eq_true rfl); (case pc => decide); (case pd => exact rfl)); intro _ _)
    k_with "call builtin:dict.get" => (k_here; k_dflt (refine' by_get ?pn ?pm ?pl ?pd ?_; (case pn => k_asm); (case pm => k_mem); (case pl => assumption); (case pd => assumption)); intro _)
    k_with "eval ListComp" => (k_here; k_dflt (refine ListComp_B (by k_asm) (by with_unfolding_all rfl) (by decide) (by rfl) (by decide) (by rfl) ?_))
    k_with "SrcB" => k_dflt (
      (refine ⟨_, _, _, rfl, by rfl, by k_asm, by k_asm, ?sz, ?_⟩);
      (case sz => (rw [← KBw.ints_length, ho, PySem.sizeLine_eq]; omega));
      intro g';
      (refine' kcf_rest (ks := os) (swp a b) ?kl ?kp ?trn9 ?_);
      (case kl => (rw [← ho, KBw.ints_length]));
      (case kp => (rintro i v hi ⟨c, u, hc, rfl⟩; exact ⟨_, u, by (rw [← ho]; exact KBw.ints_get hc), rfl⟩));
      (case' trn9 => intro ukv ukt I' oI' C' oC' D' m' ys' h' tk' E' hk' hC' hx' F' N' off' ne' hMark');
      (all_goals (try (simp only [LCg.Off3, and_true] at off'))))
    k_with "rng" => (exact swp_rng ho h1 h2)
    k_with "my call" => (
      (with_reducible show wpAny _ _ (call (Value.ref 240) _) _ _ _)
      k_dflt (refine' CallOkC.useR (lawR2 (row := allRow (.text [a]) (.text [b]) none none) (row2 := allRow (.text [b]) (.text [a]) none none) ?ho ?lo hA hB ?hr ?hr2) ?B ?F ?X ?N ?T ?hf ?hk ?hd ?hu ?hc ?P ?_; walk_at "RELC"; (case ho => assumption); (case lo => ((try simp only [List.length_map]); omega)); (case P => walk_at "PLAW2"); (case hr => walk_at "ROWA"); (case hr2 => walk_at "ROWA"); k_whole)
      intro r' h' tk' F' N' po'; obtain ⟨bq', tq', eq', hz'⟩ := BV.el po'; subst eq'; rw [swap_law] at hz'; (try rw [swp_map] at hz'); k_sweep; (try dsimp only))
    intro dp un gd env outer A₀ base h₀ L m s Q E B F X N T hfr hk hd hu hc hret
    walk_at "STEPC"
    k_steps
    all_goals exact hret _ _ _ _ (by k_asm) (News.sub (by assumption) (by walk_at "INN")) (Back.sub (Stays.back (by assumption) (by assumption) (by assumption)) (by walk_at "INN")) ⟨rfl, rfl⟩
  case F9 =>
    intros h9
    k_with_none
    conv at h9 => skip
    conv at h9 => zeta
    exact @ofTag _ _ (tag_triv : type_of% h9)))
end
end SSwap
section SPart
section
variable {prog : Program} {w : World} {p : Program} {loose : List Str} {mean : ExcName → Option Value} {mg mb : Str → Option Value}
set_option maxRecDepth 100000 in
set_option maxHeartbeats 8000000 in
theorem parted_ok {cA cB : Addr} {ocA ocB : Obj} {o mark : Array UInt8} {os : Oct} {a : Int} {t1 t2 : Tok} (hA : LamC ocA) (hB : LamC ocB) (ho : KBw.bInts o = os) (lo : os.length ≤ 64) (h1 : KBw.bInts mark = [a]) :
    CallOkC prog w p loose mean mg mb 16 600 (.ref 269) [.bytes o t1, .bytes mark t2] [(235, lamTab cA cB), (cA, ocA), (cB, ocB)] (fun r led => led = [(235, lamTab cA cB), (cA, ocA), (cB, ocB)] ∧ r = .bool true) :=
  @ofTag _ _ (by exact tag_triv : Tag (by
  k_with_none
  w_top off
  k_with "ne9" => (first | exact ne_Nat | exact ne_Heap | exact ne_Value | exact ne_Str | exact ne_Int | exact ne_Env | exact ne_Shared | exact ne_Around | exact ne_Program | exact ne_World | exact ne_List | exact ne_Option | exact ne_Arr | exact ne_Obj | exact ne_FuncData | exact ne_prod ne_Nat ne_Obj | exact ne_fun ne_Prop | exact ne_fun (ne_fun ne_Prop) | exact ne_fun ne_Option | exact ⟨Kd.chars⟩ | exact ⟨Opd.zero⟩ | (refine ⟨?_⟩; exact default) | (refine ⟨?_⟩; constructor <;> (first | exact default | exact Kd.chars | exact Opd.zero | exact tupOf #[] 0)))
  revert prog w p loose mean mg mb cA cB ocA ocB o mark os a t1 t2 hA hB ho lo h1
  refine no_implicit_lambda% ((?F9 : @Tag ?T9 (?prf9 : ?T9) → ?T9) tag_triv)
  case prf9 =>
    intro prog w p loose mean mg mb cA cB ocA ocB o mark os a t1 t2 hA hB ho lo h1
    have hple := plc_le os a
    have hsm := beh_small (a := a) lo
    have hrs := beh_size (os := os) (a := a)
    have hsz := beh_fit (a := a) lo
    have hkl := rangeKs_length ((plc os a : Int) + 1) (behN os a)
    have hkp := beh_at (os := os) (a := a)
    have hgr := behG_grows os
    k_with_none
    k_with "ne9" => (first | exact ne_Nat | exact ne_Heap | exact ne_Value | exact ne_Str | exact ne_Int | exact ne_Env | exact ne_Shared | exact ne_Around | exact ne_Program | exact ne_World | exact ne_List | exact ne_Option | exact ne_Arr | exact ne_Obj | exact ne_FuncData | exact ne_prod ne_Nat ne_Obj | exact ne_fun ne_Prop | exact ne_fun (ne_fun ne_Prop) | exact ne_fun ne_Option | exact ⟨Kd.chars⟩ | exact ⟨Opd.zero⟩ | (refine ⟨?_⟩; exact default) | (refine ⟨?_⟩; constructor <;> (first | exact default | exact Kd.chars | exact Opd.zero | exact tupOf #[] 0)))
    k_with "k_lt_skip" => skip
    k_with "k_all" => (first | (with_reducible assumption) | exact all_ne (by with_reducible assumption) (by intro q hq; k_ownIn))
    k_with "k_ne" => (first | exact ne_l (by with_reducible assumption) (by k_memK) | exact Ne.symm (ne_l (by with_reducible assumption) (by k_memK)) | exact ne_l1 (by with_reducible assumption) (by k_memK) | exact ne_l2 (by with_reducible assumption) (by k_memK) | exact ne_l3 (by with_reducible assumption) (by k_memK) | exact Ne.symm (ne_l1 (by with_reducible assumption) (by k_memK)) | exact Ne.symm (ne_l2 (by with_reducible assumption) (by k_memK)))
    k_with "room" => (first | exact rm0 (by with_reducible assumption) | exact rm1 (by with_reducible assumption) (by decide) | exact rm2 (by with_reducible assumption) (by decide) | exact rm3 (by with_reducible assumption) (by decide))
    k_with "units" => (first | exact rm0 (by with_reducible assumption) | exact rm1 (by with_reducible assumption) (by decide) | exact rm2 (by with_reducible assumption) (by decide) | exact rm3 (by with_reducible assumption) (by decide))
    k_with "ktu_obj" => (refine AllObj.cons ?_; intro o' hc'; (try dsimp only at hc'))
    k_with "ItemsRest" => (first | ((with_unfolding_all refine ItemsRest.val ?_); intro h' tk' F'; ktu_objs) | ((with_unfolding_all refine ItemsRest.pair ?_); intro T' t' h' tk' hT' F'; (try dsimp only at hT'); ktu_objs) | ((with_unfolding_all refine ItemsRest.tok ?_); intro t' h' tk' F'; (try dsimp only); ktu_objs) | ((with_unfolding_all refine ItemsRest.zero ?_); intro h' tk' F' N'))
    k_with "call ref" => (k_extra "my call")
    k_with "pyIter ref" => (k_extra "my loop")
    k_with "exec While Compare" => (k_dflt (k_extra "my while"))
    k_with "exec While BoolOp" => (k_dflt (k_extra "my while"))
    k_with "STEPC" => (refine wpAny_call ?_; k_dflt (refine' code_hereC ?k1 ?k2 ?k3 ?k4 ?k5 ?kA ?kF ?kK ?k6 ?k7 ?k8 ?k9 ?kB ?kD ?_ ?c2 ?c3 ?c4; (case kA => exact rfl); (case kF => assumption); (case kK => assumption); (case k1 => k_asm); (case k2 => k_asm); (case k3 => k_asm); (case k4 => k_asm); (case k5 => k_asm); (case k6 => k_is); (case k7 => k_is); (case k8 => ktr_room); (case k9 => exact BindsTo.of_eq rfl); (case kB => exact rfl); (case kD => decide +kernel); (case c2 => exact rfl); (case c3 => exact rfl); (case c4 => exact rfl); k_whole; intro g' L' h' tk' cells' S' FG' F' N' Y' B' X' T' l1; (try k_lt l1); k_cells Y'; (try simp only [List.cons_append, List.nil_append] at N'); (try dsimp only); (try k_lift B'); (try k_fold)))
    k_with "ite" => (k_closed; first | refine ite_pos (by decide +kernel) ?_ | refine ite_neg (by decide +kernel) ?_)
    k_with "RELR" => (
      (case B => k_asm); (case F => k_asm); (case X => k_asm); (case N => k_asm); (case T => k_asm); (case hf => exact rfl); (case hk => first | exact rfl | assumption); (case hd => ktr_room); (case hu => ktr_units);
      (case P => k_allIn);
      k_whole)
    k_with "execs cons Assign cons" => (k_here; (rename (@Ne Nat _ _ ∧ _) => o9'); (repeat (obtain ⟨_, o9'⟩ := o9')); (with_reducible refine wpAny_execs_cons ?_); (try dsimp only))
    k_with "execs cons If cons" => (k_here; (rename (@Ne Nat _ _ ∧ _) => o9'); (repeat (obtain ⟨_, o9'⟩ := o9')); (with_reducible refine wpAny_execs_cons ?_); (try dsimp only))
    k_with "callWith ref" => (k_here; k_dflt (refine' callWith_K ?k1 ?k2 ?_; (case k1 => k_asm); (case k2 => k_is); k_whole))
    k_with "RELC" => ((case B => k_asm); (case F => k_asm); (case X => k_asm); (case N => k_asm); (case T => k_asm); (case hf => exact rfl); (case hk => first | exact rfl | assumption); (case hd => ktr_room); (case hu => ktr_units); (case hc => assumption))
    k_with "INN" => ((repeat (refine List.forall_mem_cons.mpr ?_; refine And.intro (by k_memK) ?_)); (first | exact List.forall_mem_nil _ | (intro q hq; k_ownIn)))
    k_with "binaryOp Mod int int" => (k_here; (refine' mod_rest ?pa ?pb ?_; (case pa => decide); (case pb => decide)))
    k_with "binaryOp FloorDiv int int" => (k_here; (refine' div_rest ?pa ?pb ?_; (case pa => decide); (case pb => decide)))
    k_with "call type:bytes" => (k_here; k_dflt (refine' by_make ?kbaF ?kbaN ?kbah ?kbal ?kbai ?kbar ?kban ?_; (case kbaF => k_asm); (case kbaN => k_asm); (case kbah => rfl); (case kbal => kba_isList); (case kbai => kba_listInts); (case kbar => k_extra "rng"); (case kban => ((simp only [List.length_set, dueM_len]); omega))); intro hz' bz' tz' kz' F' N' hz'; (try k_sweep))
    k_with "binaryOp Add bytes bytes" => (k_here; (refine' by_add ?pa ?pb ?pc ?pd ?_; (case pa => assumption); (case pb => assumption); (case pc => ((try simp only [List.length_append, List.length_replicate, List.length_cons, List.length_nil]); omega)); (case pd => ((try simp only [List.length_append, List.length_replicate, List.length_cons, List.length_nil]); omega))); intro bz' tz' kz' hz')
    k_with "binaryOp Mult bytes int" => (k_here; (refine' by_mul ?py ?pa ?pb ?_; (case py => exact rfl); (case pa => omega); (case pb => omega)); intro bz' tz' kz' hz'; (first | (replace hz' : KBw.bInts bz' = List.replicate _ (48 : Int) := hz') | (replace hz' : KBw.bInts bz' = List.replicate _ (42 : Int) := hz') | (replace hz' : KBw.bInts bz' = List.replicate _ (32 : Int) := hz')))
    k_with "compareOp NotEq bytes bytes" => (k_here; (refine' by_ne ?pa ?pb ?_; (case pa => assumption); (case pb => assumption)))
    k_with "compareOp Eq bytes bytes" => (k_here; (refine' by_eq ?pa ?pb ?_; (case pa => assumption); (case pb => assumption)))
    k_with "call builtin:len" => (k_here; (refine' by_len ?pa ?pb ?_; (case pa => assumption); (case pb => omega)))
    k_with "PLAW" => (exact List.forall_mem_cons.mpr ⟨by k_memK, List.forall_mem_cons.mpr ⟨by k_memK, List.forall_mem_cons.mpr ⟨by k_memK, List.forall_mem_cons.mpr ⟨by k_memK, List.forall_mem_cons.mpr ⟨by k_memK, fun q hq => hq⟩⟩⟩⟩⟩)
    k_with "OPO" => (first | exact OpO.zero | exact OpO.space | exact OpO.high | exact OpO.text rfl (by decide) (by decide) | k_extra "opo")
    k_with "ROWA" => (exact rowMk (k := .all) (opIn (by k_memK) (by walk_at "OPO")) (by k_memK) (by walk_at "OPO") OpIn.none OpIn.none (by constructor <;> intro h <;> cases h) rfl)
    k_with "PLAW2" => (exact List.forall_mem_cons.mpr ⟨by k_memK, List.forall_mem_cons.mpr ⟨by k_memK, List.forall_mem_cons.mpr ⟨by k_memK, List.forall_mem_cons.mpr ⟨by k_memK, List.forall_mem_cons.mpr ⟨by k_memK, List.forall_mem_cons.mpr ⟨by k_memK, fun q hq => hq⟩⟩⟩⟩⟩⟩)
    k_with "subscriptTail" => (k_here; (with_reducible show wpAny _ _ (subscriptTail _ _ (Value.bytes _ _) (Value.int _ _)) _ _ _); (refine' by_item ?pa ?pb ?pc ?pd ?_; (case pa => assumption); (case pb => first | (with_reducible assumption) | omega); (case pc => first | (with_reducible assumption) | exact ix_lo1 (by with_reducible assumption) | omega); (case pd => exact at_getD (by first | (with_reducible assumption) | exact ix_lo1 (by with_reducible assumption) | omega) (by first | (with_reducible assumption) | exact ix_hi0 (by with_reducible assumption) | omega))); intro _ _)
    k_with "exec Assign cons ListComp" => (k_here; (with_reducible show wpAny _ _ (exec (Stmt.Assign _ (Expr.ListComp _ [⟨_, _, [], _⟩] _ _) _) _) _ _ _); k_dflt (refine LCg.Assign_ListComp_U (F₀ := by k_asm) (by rfl) (by with_unfolding_all rfl) (by with_unfolding_all rfl) (by decide) (by rfl) (by decide) (by rfl) (by rfl) (by rfl) ?_))
    k_with "exec Assign cons ListComp" => (k_here; (with_reducible show wpAny _ _ (exec (Stmt.Assign _ (Expr.ListComp _ [⟨_, _, [_], _⟩] _ _) _) _) _ _ _); k_dflt (refine LCt.Assign_ListComp_T (F₀ := by k_asm) (by rfl) (by with_unfolding_all rfl) (by with_unfolding_all rfl) (by decide) (by rfl) (by decide) (by rfl) (by rfl) (by rfl) ?_))
    k_with "newList" => (k_here; k_dflt (refine' newList_K ?k1 ?k2 ?_ ?k3; (case k1 => k_asm); (case k2 => k_asm); (case k3 => (rw [PySem.sizeLine_eq]; exact Nat.le_of_ble_eq_true rfl)); k_whole); intro l' h' F' N' l1; (try k_lt l1); (try k_sweep))
    k_with "compareOp NotEq ref ref" => (k_here; k_dflt (refine' by_nel ?pn ?pa ?pi ?pb ?pu ?pd ?_; (case pn => k_asm); (case pa => k_memK); (case pi => assumption); (case pb => k_memK); (case pu => ktr_units); (case pd => first | exact (rfl : decide ([] ≠ ([] : List Int)) = false) | exact decide_eq_true (List.cons_ne_nil _ _))))
    k_with "subscriptTail Name Constant ref int" => (k_here; k_dflt (refine' by_head ?pn ?pa ?_; (case pn => k_asm); (case pa => k_memK)))
    k_with "setItem ref int" => (k_here; k_dflt (refine' ksa_set ?k1 ?k2 ?k3 ?k4 ?k5 ?k6 ?k7 ?_; (case k1 => k_asm); (case k2 => k_asm); (case k3 => k_upd); (case k4 => k_extra "due"); (case k5 => omega); (case k6 => (rw [dueM_len]; omega)); (case k7 => omega); k_whole); intro h' F' N' hi' hl' hs'; (try k_sweep))
    k_with "ROWP" => (exact rowMk (k := .all) (opIn (by k_memK) (by walk_at "OPO")) (by k_memK) (by walk_at "OPO") (opIn (by k_memK) (by walk_at "OPO")) OpIn.none (by constructor <;> intro h <;> cases h) (by decide))
    k_with "ROWQ" => (exact rowMk (k := .first) (opIn (by k_memK) (by walk_at "OPO")) (by k_memK) (by walk_at "OPO") OpIn.none (opIn (by k_memK) (by walk_at "OPO")) (by constructor <;> intro h <;> cases h) (by decide))
    k_with "my while" => (
      (rename Fr _ _ _ _ => lF'); (rename News _ _ _ _ => lN');
      (with_unfolding_all refine' part_while (os := os) (a := a) (fun oc => [_, _, (_, oc), _, _, _, _]) lF' lN' ?hcd ?turn ?rest);
      (case hcd => assumption);
      (all_goals (clear lF' lN'));
      (case' turn => (intro oc ukp ukt h tk hp0 hp1 hpn hcd F' N'; (try k_fold)));
      (case' rest => (intro oc ukt h tk hcd F' N'; (try dsimp only))))
    k_with "CompSrc" => k_dflt (
      (refine LCg.CompSrc.range (n := os.length) (by rfl) (by k_asm) (by k_asm) (by assumption) (small_one (by omega) (by omega) (by omega) (by omega)) ((rangeSize_up _ _).trans (by omega)) (by (rw [PySem.sizeLine_eq]; omega)) ?_);
      intro g';
      (refine' kcf_range (dueG os (plc os a)) ?trn9 ?_);
      (case' trn9 => intro ukv ukt I' oI' C' oC' D' m' ys' h' tk' E' hlo' hhi' hC' hx' F' N' off' ne' hMark');
      (all_goals (try (simp only [LCg.Off3, and_true] at off'))))
    k_with "CompSrcT" => k_dflt (
      (refine LCt.CompSrcT.range (by rfl) (by k_asm) (by k_asm) (by assumption) hsm hrs hsz ?_);
      intro g';
      (refine' kci_rest (behG os) hkl hkp ?trn8 ?_ hgr);
      (case' trn8 => intro ukv ukt I' oI' C' oC' D' m' ys' ul' h' tk' E' hk' hul' hC' hx' F' N' off' ne' hMark');
      (all_goals (try (obtain ⟨hlo', hhi'⟩ := mem_rangeKs hk'; have hhj' := beh_lt hlo' hhi'))))
    k_with "CompEnd" => k_dflt ((rename News _ _ _ _ => nE'); refine LCg.CompEnd.intro (by with_reducible assumption) nE' _ (fun q hq => hq) off' trivial ?_)
    k_with "KCfEl" => k_dflt (first | exact kcf_el (dueG_1 (by with_reducible assumption) (by with_reducible assumption)) (by with_unfolding_all rfl) (by with_unfolding_all rfl) | exact kcf_el (dueG_2 (by with_reducible assumption)) (by with_unfolding_all rfl) (by with_unfolding_all rfl) | exact kcf_el (dueG_3 (by with_reducible assumption)) (by with_unfolding_all rfl) (by with_unfolding_all rfl))
    k_with "KCiEl" => k_dflt (exact kci_el (l := ul') (a := ukv) (behG_yes (by with_reducible assumption)) (by with_unfolding_all rfl) (by with_unfolding_all rfl))
    k_with "KCiNo" => k_dflt (exact kci_no (behG_no (by with_reducible assumption)) (by with_unfolding_all rfl))
    k_with "KPfDone" => k_dflt (
      (with_reducible show KPfDone (∀ ys, IntsAre ys (List.map _ _) → _));
      (intro ys hdue; (replace hdue : IntsAre ys (dueM os (plc os a)) := hdue); (try dsimp only)))
    k_with "KPfDone" => k_dflt (
      (with_reducible show KPfDone (∀ ys, IntsAre ys (List.foldl _ _ _) → _));
      (intro ys hbeh hbl; (replace hbeh : IntsAre ys (behL os (plc os a)) := hbeh); clear hbl; (generalize hbl : behL os (plc os a) = bl at hbeh); (rcases intsAre_el hbeh with hq9 | hq9));
      (all_goals (first | (obtain ⟨ui, ut, ysr, nsr, e1, e2, hrest⟩ := hq9; subst e1 e2; obtain ⟨hu0, hu1, hu2⟩ := behL_mem hbl) | (obtain ⟨e1, e2⟩ := hq9; subst e1 e2)));
      (all_goals (try dsimp only)))
    k_with "rng" => (first | exact due_rng ho | exact set_rng (due_rng ho) ⟨by decide, by decide⟩)
    k_with "due" => (exact hdue)
    k_with "opo" => (exact OpO.text h1 (by simp) (by simp))
    k_with "my call" => (
      (with_reducible show wpAny _ _ (call (Value.ref 240) _) _ _ _)
      k_dflt (refine' CallOkC.useR (lawR2 (row := allRow .zero (.text [42]) (some (.text [a])) none) (row2 := ⟨.first, some .zero, .space, none, some (.text [a])⟩) ?ho ?lo hA hB ?hr ?hr2) ?B ?F ?X ?N ?T ?hf ?hk ?hd ?hu ?hc ?P ?_; walk_at "RELC"; (case ho => exact ho); (case lo => exact lo); (case P => walk_at "PLAW2"); (case hr => walk_at "ROWP"); (case hr2 => walk_at "ROWQ"); k_whole)
      intro r' h' tk' F' N' po'; obtain ⟨bq', tq', eq', hz'⟩ := BV.el po'; subst eq'; (first | rw [part_nil hbl] at hz' | rw [part_cons hbl] at hz'); k_sweep; (try dsimp only))
    intro dp un gd env outer A₀ base h₀ L m s Q E B F X N T hfr hk hd hu hc hret
    walk_at "STEPC"
    k_steps
    all_goals (try (safely (exact hret _ _ _ _ (by k_asm) (News.sub (by with_reducible assumption) (by walk_at "INN")) (Back.sub (Stays.back (by with_reducible assumption) (by with_reducible assumption) (by with_reducible assumption)) (by walk_at "INN")) ⟨rfl, rfl⟩)))
    · (rename News _ _ _ _ => nE'); (refine ⟨rfl, ?oo, ?tp, ?hh, ?tt, ?e1, ?pa1, ?pa3, ?pa2⟩); (case e1 => exact rfl); (case pa1 => with_reducible assumption); (case pa2 => assumption); (case pa3 => exact nE')
    · (rename (KBw.bInts _ = List.take _ _) => hkk); (refine part_ne hkk h1 hp0 ?pz); (case pz => with_reducible assumption)
    · (rename (KBw.bInts _ = List.take _ _) => hkk); (refine ⟨oc, ukt, _, _, rfl, ?pb1, ?pb2, stop_eq hkk h1 hp0 ?pb3 hpn hcd⟩; (case pb1 => with_reducible assumption); (case pb2 => with_reducible assumption); (case pb3 => with_reducible assumption))
    · (refine ⟨oc, ukt, _, _, rfl, ?pc1, ?pc2, stop_end hp0 (by omega) hp1 hpn hcd⟩; (case pc1 => with_reducible assumption); (case pc2 => with_reducible assumption))
  case F9 =>
    intros h9
    k_with_none
    conv at h9 => skip
    conv at h9 => zeta
    exact @ofTag _ _ (tag_triv : type_of% h9)))
end
end SPart
section SLaw
set_option maxRecDepth 100000 in
set_option maxHeartbeats 8000000 in
theorem law_ok : PySem.Challenge.rw_pb0234_01.Holds :=
  @ofTag _ _ (by exact tag_triv : Tag (by
  k_with_none
  w_top off
  k_with "ne9" => (first | exact ne_Nat | exact ne_Heap | exact ne_Value | exact ne_Str | exact ne_Int | exact ne_Env | exact ne_Shared | exact ne_Around | exact ne_Program | exact ne_World | exact ne_List | exact ne_Option | exact ne_Arr | exact ne_Obj | exact ne_FuncData | exact ne_prod ne_Nat ne_Obj | exact ne_fun ne_Prop | exact ne_fun (ne_fun ne_Prop) | exact ne_fun ne_Option | exact ⟨Kd.chars⟩ | exact ⟨Opd.zero⟩ | (refine ⟨?_⟩; exact default) | (refine ⟨?_⟩; constructor <;> (first | exact default | exact Kd.chars | exact Opd.zero | exact tupOf #[] 0)))
  refine no_implicit_lambda% ((?F9 : @Tag ?T9 (?prf9 : ?T9) → ?T9) tag_triv)
  case prf9 =>
    k_with_none
    k_with "ne9" => (first | exact ne_Nat | exact ne_Heap | exact ne_Value | exact ne_Str | exact ne_Int | exact ne_Env | exact ne_Shared | exact ne_Around | exact ne_Program | exact ne_World | exact ne_List | exact ne_Option | exact ne_Arr | exact ne_Obj | exact ne_FuncData | exact ne_prod ne_Nat ne_Obj | exact ne_fun ne_Prop | exact ne_fun (ne_fun ne_Prop) | exact ne_fun ne_Option | exact ⟨Kd.chars⟩ | exact ⟨Opd.zero⟩ | (refine ⟨?_⟩; exact default) | (refine ⟨?_⟩; constructor <;> (first | exact default | exact Kd.chars | exact Opd.zero | exact tupOf #[] 0)))
    k_with "k_lt_skip" => skip
    k_with "k_all" => (first | (with_reducible assumption) | exact all_ne (by with_reducible assumption) (by intro q hq; k_ownIn))
    k_with "k_ne" => (first | exact ne_l (by with_reducible assumption) (by k_memK) | exact Ne.symm (ne_l (by with_reducible assumption) (by k_memK)) | exact ne_l1 (by with_reducible assumption) (by k_memK) | exact ne_l2 (by with_reducible assumption) (by k_memK) | exact ne_l3 (by with_reducible assumption) (by k_memK) | exact Ne.symm (ne_l1 (by with_reducible assumption) (by k_memK)) | exact Ne.symm (ne_l2 (by with_reducible assumption) (by k_memK)))
    k_with "room" => (first | exact rm0 (by with_reducible assumption) | exact rm1 (by with_reducible assumption) (by decide) | exact rm2 (by with_reducible assumption) (by decide) | exact rm3 (by with_reducible assumption) (by decide))
    k_with "units" => (first | exact rm0 (by with_reducible assumption) | exact rm1 (by with_reducible assumption) (by decide) | exact rm2 (by with_reducible assumption) (by decide) | exact rm3 (by with_reducible assumption) (by decide))
    k_with "ktu_obj" => (refine AllObj.cons ?_; intro o' hc'; (try dsimp only at hc'))
    k_with "ItemsRest" => (first | ((with_unfolding_all refine ItemsRest.val ?_); intro h' tk' F'; ktu_objs) | ((with_unfolding_all refine ItemsRest.pair ?_); intro T' t' h' tk' hT' F'; (try dsimp only at hT'); ktu_objs) | ((with_unfolding_all refine ItemsRest.tok ?_); intro t' h' tk' F'; (try dsimp only); ktu_objs) | ((with_unfolding_all refine ItemsRest.zero ?_); intro h' tk' F' N'))
    k_with "call ref" => (k_extra "my call")
    k_with "pyIter ref" => (k_extra "my loop")
    k_with "exec While Compare" => (k_dflt (k_extra "my while"))
    k_with "exec While BoolOp" => (k_dflt (k_extra "my while"))
    k_with "STEPC" => (refine wpAny_call ?_; k_dflt (refine' code_hereC ?k1 ?k2 ?k3 ?k4 ?k5 ?kA ?kF ?kK ?k6 ?k7 ?k8 ?k9 ?kB ?kD ?_ ?c2 ?c3 ?c4; (case kA => exact rfl); (case kF => assumption); (case kK => assumption); (case k1 => k_asm); (case k2 => k_asm); (case k3 => k_asm); (case k4 => k_asm); (case k5 => k_asm); (case k6 => k_is); (case k7 => k_is); (case k8 => ktr_room); (case k9 => exact BindsTo.of_eq rfl); (case kB => exact rfl); (case kD => decide +kernel); (case c2 => exact rfl); (case c3 => exact rfl); (case c4 => exact rfl); k_whole; intro g' L' h' tk' cells' S' FG' F' N' Y' B' X' T' l1; (try k_lt l1); k_cells Y'; (try simp only [List.cons_append, List.nil_append] at N'); (try dsimp only); (try k_lift B'); (try k_fold)))
    k_with "ite" => (k_closed; first | refine ite_pos (by decide +kernel) ?_ | refine ite_neg (by decide +kernel) ?_)
    k_with "RELR" => (
      (case B => k_asm); (case F => k_asm); (case X => k_asm); (case N => k_asm); (case T => k_asm); (case hf => exact rfl); (case hk => first | exact rfl | assumption); (case hd => ktr_room); (case hu => ktr_units);
      (case P => k_allIn);
      k_whole)
    k_with "RELC" => ((case B => k_asm); (case F => k_asm); (case X => k_asm); (case N => k_asm); (case T => k_asm); (case hf => exact rfl); (case hk => first | exact rfl | assumption); (case hd => ktr_room); (case hu => ktr_units); (case hc => assumption))
    k_with "call type:bytes" => (k_here; k_dflt (refine' by_make ?kbaF ?kbaN ?kbah ?kbal ?kbai ?kbar ?kban ?_; (case kbaF => k_asm); (case kbaN => k_asm); (case kbah => rfl); (case kbal => kba_isList); (case kbai => kba_listInts); (case kbar => first | exact List.forall_mem_cons.mpr ⟨by constructor <;> omega, List.forall_mem_nil _⟩ | k_extra "rng"); (case kban => first | exact Nat.le_of_ble_eq_true rfl | omega | ((simp only [List.length_map]); omega))); intro hz' bz' tz' kz' F' N' hz'; (try k_sweep))
    k_with "eval ListComp" => (k_here; (with_reducible show wpAny _ _ (eval (Expr.ListComp (Expr.Call (Expr.Name (Str.ofString "_law_pick") _) _ _ _) _ _ _) _) _ _ _); k_dflt (refine LCg.ListComp_U (F₀ := by k_asm) (by with_unfolding_all rfl) (by decide) (by rfl) (by decide) (by rfl) ?_))
    k_with "MEM3" => (exact List.forall_mem_cons.mpr ⟨by k_memK, List.forall_mem_cons.mpr ⟨by k_memK, List.forall_mem_cons.mpr ⟨by k_memK, List.forall_mem_nil _⟩⟩⟩)
    k_with "RELCW" => ((case B => k_asm); (case F => k_asm); (case X => k_asm); (case T => k_asm); (case hf => exact rfl); (case hk => first | exact rfl | assumption); (case hd => ktr_room); (case hu => ktr_units); (case hc => assumption))
    k_with "RELD" => ((case B => k_asm); (case F => k_asm); (case X => k_asm); (case N => k_asm); (case T => k_asm); (case hf => exact rfl); (case hk => first | exact rfl | assumption); (case hd => ktr_room); (case hu => ktr_units); (case hm => k_memK); (case ht => k_memK); (case hR => first | exact rot3 | (intro q hq; k_ownIn)))
    k_with "binaryOp Pow int int" => (k_here; k_extra "pow")
    refine hd ?_  -- NOVARS
    k_with "my call" => (
      (with_reducible show wpAny _ _ (call (Value.ref 252) _) _ _ _)
      (rename News _ _ _ _ => lN')
      k_dflt (refine' written_use written_ok ?B ?F ?X lN' ?hn ?T ?hf ?hk ?hd ?hu ?hc ?_; walk_at "RELCW"; (case hn => k_ne); k_whole)
      intro cA' ocA' cB' ocB' h' tk' F' hA' hB' N' hcA' hcB'; clear lN'; (try dsimp only))
    k_with "my call" => (
      (with_reducible show wpAny _ _ (call (Value.ref 219) _) _ _ _)
      k_dflt (refine' draw_use (draw_ok ?hpi hpl ⟨hp0, ?ht9⟩ ?hm9 hpc) ?B ?F ?X ?N ?T ?hf ?hk ?hd ?hu ?hm ?ht ?hR hoff ?_; walk_at "RELD"; (case hpi => assumption); (case ht9 => omega); (case hm9 => (constructor <;> omega)); k_whole)
      intro kd' td' pt' pr' u2' u3' h' tk' hk0' hk1' hp0 hp1 F' N'; (try dsimp only))
    k_with "my call" => (
      (with_reducible show wpAny _ _ (call (Value.ref 259) _) _ _ _)
      k_dflt (refine' CallOkC.useR (noughts_int ?w1 ?w2 ?w3 (fun hn hw => noughts_ok hA' hB' hk0' hn hw)) ?B ?F ?X ?N ?T ?hf ?hk ?hd ?hu ?hc ?P ?_; walk_at "RELC"; (case w1 => omega); (case w2 => omega); (case w3 => exact ten_le hk1' hze' (by omega)); (case P => walk_at "MEM3"); k_whole)
      intro r' h' tk' F' N' po'; subst po'; clear hze'; k_sweep; (try dsimp only))
    k_with "KPfDone" => (kpf_rest; (rename List Value => ys9); revert ys9; intro ys9; (set_option tactic.hygienic false in intros); (try k_sweep); (rename News _ _ _ _ => nD'); (try simp only [List.nil_append, List.cons_append, List.append_nil] at nD'); (try ((rename List.length _ ≤ _ => hB8); (simp only [List.length_cons, List.length_nil, Nat.zero_add] at hB8))); (try ((rename IntsAre _ _ => hI8); (have hL8 := IntsAre.length hI8))))
    k_with "CompSrc" => k_dflt (
      (refine LCg.CompSrc.ledger (by rfl) (by k_asm) (by k_asm) (by k_mem) (by kcf_size) ?_); intro g'; (refine' kcf_list _ (by first | assumption | l_ints) ?trn7 ?_); (case' trn7 => intro k' t' I' oI' C' oC' D' m' ys' h' tk' E' hk' hC' hx' F' N' off' ne' hMark'); (all_goals (try (simp only [LCg.Off3, and_true] at off'))); kcf_last)
    k_with "CompSrc" => k_dflt (
      (rename IsRange _ _ _ _ _ _ _ _ => hrg9);
      (refine' LCg.CompSrc.range (n := Int.toNat kd') ?s1 ?s2 ?s3 hrg9 ?s4 ?s5 ?s6 ?_);
      (case s1 => rfl);
      (case s2 => k_asm);
      (case s3 => k_asm);
      (case s4 => exact small_one (by omega) (by omega) (by omega) (by omega));
      (case s5 => (refine (rangeSize_up _ _).trans ?_; congr 1; omega));
      (case s6 => (rw [PySem.sizeLine_eq]; omega));
      intro g';
      (refine' comp_inv (fun i ys nx => JP _ _ _ _ _ [48, 48, 49, 50, 48, 51, 57, 44] i ys nx) ?h0 ?turn ?fin);
      (case h0 => exact JP.zero hp0);
      (case' turn => (intro ui v ys nx I' oI' C' oC' D' m' h' tk' E' hi' hJ' hv' hC' hx' F' N' off' ne'; obtain ⟨ct, cr, ct2, ct3, ns', rfl, hys', hnl', hnm', hp0, hc1'⟩ := hJ'.h; (have hoff2 := off4 (oI := oI') (oC := oC') (oD := LCg.lst ys) off' hoff)));
      (case' fin => (intro ys nx hJ'; obtain ⟨ct, cr, ct2, ct3, ns', rfl, hys', hnl', hnm', hp0, hc1'⟩ := hJ'.h)))
    k_with "my call" => (
      (with_reducible show wpAny _ _ (call (Value.ref 226) [_, Value.bytes _ _]) _ _ _)
      k_dflt (refine' pick_use (pick_bytes_ok (l := [48, 48, 49, 50, 48, 51, 57, 44]) rfl (by decide) ?hpi hpl ⟨hp0, ?ht9⟩ hpc) ?B ?F ?X ?N ?T ?hf ?hk ?hd ?hu ?hm ?ht ?hR hoff2 ?_; walk_at "RELD"; (case hpi => assumption); (case ht9 => omega); k_whole)
      intro kp' tp' pt' pr' u2' u3' h' tk' hkp' hq0' hq1' F' N'; (try dsimp only))
    k_with "CompEnd" => k_dflt ((rename News _ _ _ _ => nE'); exact LCg.CompEnd.intro (by with_reducible assumption) nE' _ rot4 off' trivial (JP.step hys' hnl' hnm' hkp' hq0' (by omega)))
    k_with "pow" => ((refine' pow_ten ?pa ?pb ?_; (case pa => omega); (case pb => omega)); intro z' hz0' hz1' hze')
    k_with "rng" => (exact draws_rng hnm')
    k_with "my call" => (
      (with_reducible show wpAny _ _ (call (Value.ref 226) [_, Value.ref _]) _ _ _)
      k_dflt (refine' pickl_use (pick_list_ok (t1 := (0 : Nat)) ?hpi hpl ⟨hp0, ?ht9⟩ hpc ?hps ?hcs) ?B ?F ?X ?N ?T ?hf ?hk ?hd ?hu ?hm ?ht ?hs ?hR hoff ?_; walk_at "RELD"; (case hpi => assumption); (case hs => k_memK); (case hps => k_ne); (case hcs => k_ne); (case ht9 => omega); k_whole)
      intro kb' tb' pt' pr' u2' u3' h' tk' hkb' hp0 hp1 F' N'; obtain ⟨bb', hbb', hbv'⟩ := pick3 hkb'; k_dflt (first | (replace hbv' : bb' = 57 ∨ bb' = 44 ∨ bb' = 52 := hbv') | (replace hbv' : bb' = 44 ∨ bb' = 49 ∨ bb' = 57 := hbv')); (try dsimp only))
    k_with "my call" => (
      (with_reducible show wpAny _ _ (call (Value.ref 264) _) _ _ _)
      k_dflt (refine' CallOkC.useR (swapped_ok hA' hB' ?ho ?lo ?h1 hbb' ?hab) ?B ?F ?X ?N ?T ?hf ?hk ?hd ?hu ?hc ?P ?_; walk_at "RELC"; (case ho => assumption); (case h1 => assumption); (case lo => omega); (case hab => omega); (case P => walk_at "MEM3"); k_whole)
      intro r' h' tk' F' N' po'; subst po'; clear hbv' hbb'; k_sweep; (try dsimp only))
    k_with "my call" => (
      (with_reducible show wpAny _ _ (call (Value.ref 269) _) _ _ _)
      k_dflt (refine' CallOkC.useR (parted_ok hA' hB' ?ho ?lo hbb') ?B ?F ?X ?N ?T ?hf ?hk ?hd ?hu ?hc ?P ?_; walk_at "RELC"; (case ho => assumption); (case lo => omega); (case P => walk_at "MEM3"); k_whole)
      intro r' h' tk' F' N' po'; subst po'; k_sweep; (try dsimp only))
    k_with "my loop" => (refine Stop.on ?_)
    k_with "LPost" => (dsimp only [LPost])
    k_go0
    (all_goals try k_fold)
    repeat' (first | (k_unfold; (try dsimp only)) | walk1 | (dsimp only; walk1) | (leave1; try dsimp only) | fail "no step")
    refine Stop.mk ?_
    (rename Fr _ _ _ _ => lF'); (rename News _ _ _ _ => lN');
    (with_unfolding_all refine' law_loop [Str.ofString "turn", Str.ofString "width", Str.ofString "octets", Str.ofString "one"] ?hxs ?hi ?hlen rfl ?hr lF' lN' ?hlt ?turn ?done);
    (case hi => assumption);
    (case hxs => decide);
    (case hr => assumption);
    (case hlt => exact ⟨lt_l (by with_reducible assumption) (by k_memK), lt_l (by with_reducible assumption) (by k_memK), lt_l (by with_reducible assumption) (by k_memK), lt_l (by with_reducible assumption) (by k_memK), lt_l (by with_reducible assumption) (by k_memK), lt_l (by with_reducible assumption) (by k_memK)⟩);
    (case hlen => (simp only [List.length_map, List.length_take]; omega));
    (all_goals (clear lF' lN'));
    (case' turn => (intro pt pr pt2 pt3 u h tk own hp0 hp1 hpi hpl hoff F' N'; (have hpc := Ne.symm (hoff _ (List.Mem.head _))); (dsimp only at hpc); (try k_fold)));
    (case' done => (intro u h tk ol F' N'; (try dsimp only)));
    case done => k_steps
    case turn =>
      repeat' (first | (k_unfold; (try dsimp only)) | walk1 | (dsimp only; walk1) | (leave1; try dsimp only) | fail "no step")
      (rename News _ _ _ _ => nE'); (rename Fr _ _ _ _ => fE')
      first
        | refine LEnd.mk fE' nE' hp0 ?eT ?eF
        | ((rename (List.length _ = List.length (List.map _ _)) => hL9); (rw [hL9] at nE'); refine LEnd.mk fE' nE' hp0 ?eT ?eF)
      case eT => omega
      case eF =>
        intro z hz
        have hz' := hz
        simp only [List.contains_cons, List.contains_nil, Bool.or_false, Bool.or_eq_false_iff, beq_eq_false_iff_ne, ne_eq] at hz
        simp [hz, hz']
  case F9 =>
    intros h9
    k_with_none
    conv at h9 => skip
    conv at h9 => zeta
    exact @ofTag _ _ (tag_triv : type_of% h9)))
end SLaw
end Mine
theorem PySem.Challenge.cw_pb0234_01_holds : PySem.Challenge.rw_pb0234_01.Holds :=
  Mine.law_ok
