import PyProof.Rows.All
import Wide.All
import OpenK.AllK
import Wide.FinOn
import PySem.Challenge.RW_on0115_01
open PySem PySem.W PySem.Calls PyProof.Rows
set_option Elab.async false
set_option compiler.extract_closed false
set_option maxRecDepth 100000
set_option maxHeartbeats 8000000
set_option linter.unusedVariables false
namespace Mine
section
local macro_rules | `(tactic| o_head $_) => `(tactic| skip)
/-- states nothing: it only lays the written part of the program's state, as the constant pre.heap_1 -/
theorem pre (h : PySem.Challenge.rw_on0115_01.row.Holds) : PySem.Challenge.rw_on0115_01.row.Holds := by
  k_head
  exact h
end
def Spec (w : World) (f : Addr) (args : List Value) (d u : Nat) (news : List (Addr × Obj)) (Ret : Value → List (Addr × Obj) → Prop) : Prop :=
  ∀ (dp un : Nat) (gd : Option (List Code)) (cn : Str) (cs : Scope) (a : Addr) (ccd : Value) (cl : List (Str × Addr)) (outer : List Env) (A₀ : Around) (base h₀ : Heap) (L : Addr) (m : Str → Option Value)
    (p : Program) (loose : List Str) (mean : ExcName → Option Value) (mg mb : Str → Option Value) (s : Shared) (Q E : Value → Shared → Prop),
    Below A₀ base outer h₀ → Fr h₀ L s.heap m → (pre.heap_1 w.params).In h₀ → News h₀ L s.heap news → Top p loose mean mg mb h₀ → cs.kind = .function → dp + d < recursionLimit → un + u < cLine →
    (∀ r news' h' tk', Fr h₀ L h' m → News h₀ L h' news' → Ret r news' → Q r { s with heap := h', toks := tk' }) →
    wpAny (model Challenge.rw_on0115_01.row.prog w) (ktrTop dp un gd cn cs L a ccd cl outer) (call (.ref f) args) Q E s

def Back (s : Shared) (g : Heap) (Ret : Value → List (Addr × Obj) → Prop) (v : Value) (s' : Shared) : Prop :=
  ∃ L' m' news' h' tk', s' = { s with heap := h', toks := tk' } ∧ Fr g L' h' m' ∧ News g L' h' news' ∧ Ret v news'

theorem Spec.of_body {w : World} {f : Addr} {args : List Value} {d u : Nat} {news : List (Addr × Obj)} {Ret : Value → List (Addr × Obj) → Prop}
    {name qual : Str} {params : Arguments} {body : List Stmt} {scope : Scope} {dV kV doc pm cdv ct oc : Value} {an od : Option Addr} {osl : Array (Option Value)} {binds : List (Str × Value)}
    (ho : (pre.heap_1 w.params).lookup f = some ⟨oc, od, .func (fnOf name qual params body scope dV kV doc pm an cdv ct), osl⟩) (hcd : codeIn (pre.heap_1 w.params) cdv qual = true)
    (hbind : ∀ s, BindsTo s (fnOf name qual params body scope dV kV doc pm an cdv ct) ⟨args, []⟩ binds) (hloc : ∀ y ∈ binds, scope.names.lookup y.1 = some .local)
    (h1 : 1 ≤ d)
    (hco : scope.isCoroutine = false) (hgen : scope.isGenerator = false) (hk : scope.kind = .function) (hcell : ∀ x ∈ scope.names, x.2 ≠ .cell)
    (h : ∀ (dp un : Nat) (gd : Option (List Code)) (cn : Str) (cs : Scope) (L a : Addr) (ccd : Value) (cl : List (Str × Addr)) (outer : List Env) (base g : Heap) (L' : Addr) (h₁ : Heap)
      (p : Program) (loose : List Str) (mean : ExcName → Option Value) (mg mb : Str → Option Value) (s : Shared) (tk : Nat),
      Below (ktrTop dp un gd cn cs L a ccd cl outer) base (envX cn cs L a ccd cl :: outer) g → Fr g L' h₁ (fun y => binds.reverse.lookup y) → (pre.heap_1 w.params).In g → News g L' h₁ news → Top p loose mean mg mb g →
      dp + d < recursionLimit → un + u < cLine → (∀ p ∈ news, p.1 < L') →
      wpAny (model Challenge.rw_on0115_01.row.prog w) ((ktrTop dp un gd cn cs L a ccd cl outer).deeper (envOf qual scope L' f cdv)) (execs body (envOf qual scope L' f cdv))
        (fun fl s' => Back s g Ret (match fl with | .ret v => v | _ => .none) s') (fun _ _ => False) { s with heap := h₁, toks := tk }) :
    Spec w f args d u news Ret := by
  k_whole
  intro dp un gd cn cs a ccd cl outer A₀ base h₀ L m p loose mean mg mb s Q E B F X N T hck hd' hu hret
  refine wpAny_call ?_
  have hA : (ktrTop dp un gd cn cs L a ccd cl outer).frames = some (envX cn cs L a ccd cl :: outer) := rfl
  refine callX_plain (env := envX cn cs L a ccd cl) (cl := []) B F N T.nolimit hA rfl hck ((X.keeps F.keep) _ _ ho) rfl (codeRec_of (X.keeps F.keep) hcd) (by show dp < recursionLimit; omega) (hbind s) hloc
    (fun g L' h₁ FG F' N' B' st hlt => ?_) hcell hco hgen hk
  refine wpAny_mono (h dp un gd cn cs L a ccd cl outer base g L' h₁ p loose mean mg mb s _ B' F' (X.keeps st) N' (T.keeps st) hd' hu hlt) ?_ (fun _ _ x => x.elim)
  rintro fl s' ⟨L₂, m', news', h', tk', rfl, F₂, N₂, hr⟩
  exact ⟨L₂, m', news', F₂, N₂, fun F₃ N₃ => hret _ news' h' tk' F₃ N₃ hr⟩

theorem Spec.use {w : World} {f : Addr} {args : List Value} {d u : Nat} {news : List (Addr × Obj)} {Ret : Value → List (Addr × Obj) → Prop} (S : Spec w f args d u news Ret)
    {dp un : Nat} {gd : Option (List Code)} {cn : Str} {cs : Scope} {a : Addr} {ccd : Value} {cl : List (Str × Addr)} {outer : List Env} {A₀ : Around} {base h₀ : Heap} {L : Addr} {m : Str → Option Value}
    {p : Program} {loose : List Str} {mean : ExcName → Option Value} {mg mb : Str → Option Value} {s : Shared} {Q E : Value → Shared → Prop}
    (B : Below A₀ base outer h₀) (F : Fr h₀ L s.heap m) (X : (pre.heap_1 w.params).In h₀) (N : News h₀ L s.heap news) (T : Top p loose mean mg mb h₀) (hk : cs.kind = .function) (hd' : dp + d < recursionLimit) (hu : un + u < cLine)
    (h : ∀ r news' h' tk', Fr h₀ L h' m → News h₀ L h' news' → Ret r news' → Q r { s with heap := h', toks := tk' }) :
    wpAny (model Challenge.rw_on0115_01.row.prog w) (ktrTop dp un gd cn cs L a ccd cl outer) (call (.ref f) args) Q E s :=
  S dp un gd cn cs a ccd cl outer A₀ base h₀ L m p loose mean mg mb s Q E B F X N T hk hd' hu h

def SpecB (Bs : Heap → Prop) (w : World) (f : Addr) (args : List Value) (d u : Nat) (news : List (Addr × Obj)) (Ret : Value → List (Addr × Obj) → Prop) : Prop :=
  ∀ (dp un : Nat) (gd : Option (List Code)) (cn : Str) (cs : Scope) (a : Addr) (ccd : Value) (cl : List (Str × Addr)) (outer : List Env) (A₀ : Around) (base h₀ : Heap) (L : Addr) (m : Str → Option Value)
    (p : Program) (loose : List Str) (mean : ExcName → Option Value) (mg mb : Str → Option Value) (s : Shared) (Q E : Value → Shared → Prop),
    Below A₀ base outer h₀ → Fr h₀ L s.heap m → (pre.heap_1 w.params).In h₀ → Bs h₀ → News h₀ L s.heap news → Top p loose mean mg mb h₀ → cs.kind = .function → dp + d < recursionLimit → un + u < cLine →
    (∀ r news' h' tk', Fr h₀ L h' m → News h₀ L h' news' → Ret r news' → Q r { s with heap := h', toks := tk' }) →
    wpAny (model Challenge.rw_on0115_01.row.prog w) (ktrTop dp un gd cn cs L a ccd cl outer) (call (.ref f) args) Q E s


theorem SpecB.of_body {Bs : Heap → Prop} (hBs : ∀ h h' : Heap, h.StaysIn h' → Bs h → Bs h') {w : World} {f : Addr} {args : List Value} {d u : Nat} {news : List (Addr × Obj)} {Ret : Value → List (Addr × Obj) → Prop}
    {name qual : Str} {params : Arguments} {body : List Stmt} {scope : Scope} {dV kV doc pm cdv ct oc : Value} {an od : Option Addr} {osl : Array (Option Value)} {binds : List (Str × Value)}
    (ho : (pre.heap_1 w.params).lookup f = some ⟨oc, od, .func (fnOf name qual params body scope dV kV doc pm an cdv ct), osl⟩) (hcd : codeIn (pre.heap_1 w.params) cdv qual = true)
    (hbind : ∀ s, BindsTo s (fnOf name qual params body scope dV kV doc pm an cdv ct) ⟨args, []⟩ binds) (hloc : ∀ y ∈ binds, scope.names.lookup y.1 = some .local)
    (h1 : 1 ≤ d)
    (hco : scope.isCoroutine = false) (hgen : scope.isGenerator = false) (hk : scope.kind = .function) (hcell : ∀ x ∈ scope.names, x.2 ≠ .cell)
    (h : ∀ (dp un : Nat) (gd : Option (List Code)) (cn : Str) (cs : Scope) (L a : Addr) (ccd : Value) (cl : List (Str × Addr)) (outer : List Env) (base g : Heap) (L' : Addr) (h₁ : Heap)
      (p : Program) (loose : List Str) (mean : ExcName → Option Value) (mg mb : Str → Option Value) (s : Shared) (tk : Nat),
      Below (ktrTop dp un gd cn cs L a ccd cl outer) base (envX cn cs L a ccd cl :: outer) g → Fr g L' h₁ (fun y => binds.reverse.lookup y) → (pre.heap_1 w.params).In g → Bs g → News g L' h₁ news → Top p loose mean mg mb g →
      dp + d < recursionLimit → un + u < cLine → (∀ p ∈ news, p.1 < L') →
      wpAny (model Challenge.rw_on0115_01.row.prog w) ((ktrTop dp un gd cn cs L a ccd cl outer).deeper (envOf qual scope L' f cdv)) (execs body (envOf qual scope L' f cdv))
        (fun fl s' => Back s g Ret (match fl with | .ret v => v | _ => .none) s') (fun _ _ => False) { s with heap := h₁, toks := tk }) :
    SpecB Bs w f args d u news Ret := by
  k_whole
  intro dp un gd cn cs a ccd cl outer A₀ base h₀ L m p loose mean mg mb s Q E B F X hB9 N T hck hd' hu hret
  refine wpAny_call ?_
  have hA : (ktrTop dp un gd cn cs L a ccd cl outer).frames = some (envX cn cs L a ccd cl :: outer) := rfl
  refine callX_plain (env := envX cn cs L a ccd cl) (cl := []) B F N T.nolimit hA rfl hck ((X.keeps F.keep) _ _ ho) rfl (codeRec_of (X.keeps F.keep) hcd) (by show dp < recursionLimit; omega) (hbind s) hloc
    (fun g L' h₁ FG F' N' B' st hlt => ?_) hcell hco hgen hk
  refine wpAny_mono (h dp un gd cn cs L a ccd cl outer base g L' h₁ p loose mean mg mb s _ B' F' (X.keeps st) (hBs _ _ st hB9) N' (T.keeps st) hd' hu hlt) ?_ (fun _ _ x => x.elim)
  rintro fl s' ⟨L₂, m', news', h', tk', rfl, F₂, N₂, hr⟩
  exact ⟨L₂, m', news', F₂, N₂, fun F₃ N₃ => hret _ news' h' tk' F₃ N₃ hr⟩


theorem SpecB.use {Bs : Heap → Prop} {w : World} {f : Addr} {args : List Value} {d u : Nat} {news : List (Addr × Obj)} {Ret : Value → List (Addr × Obj) → Prop} (S : SpecB Bs w f args d u news Ret)
    {dp un : Nat} {gd : Option (List Code)} {cn : Str} {cs : Scope} {a : Addr} {ccd : Value} {cl : List (Str × Addr)} {outer : List Env} {A₀ : Around} {base h₀ : Heap} {L : Addr} {m : Str → Option Value}
    {p : Program} {loose : List Str} {mean : ExcName → Option Value} {mg mb : Str → Option Value} {s : Shared} {Q E : Value → Shared → Prop}
    (B : Below A₀ base outer h₀) (F : Fr h₀ L s.heap m) (X : (pre.heap_1 w.params).In h₀) (hB9 : Bs h₀) (N : News h₀ L s.heap news) (T : Top p loose mean mg mb h₀) (hk : cs.kind = .function) (hd' : dp + d < recursionLimit) (hu : un + u < cLine)
    (h : ∀ r news' h' tk', Fr h₀ L h' m → News h₀ L h' news' → Ret r news' → Q r { s with heap := h', toks := tk' }) :
    wpAny (model Challenge.rw_on0115_01.row.prog w) (ktrTop dp un gd cn cs L a ccd cl outer) (call (.ref f) args) Q E s :=
  S dp un gd cn cs a ccd cl outer A₀ base h₀ L m p loose mean mg mb s Q E B F X hB9 N T hk hd' hu h

/-- a stop of the walk -/
def Hold (P : Prop) : Prop := P
theorem Hold.mk {P : Prop} (h : Hold P) : P := h
theorem Hold.of {P : Prop} (h : P) : Hold P := h
/-- the sign that loops are to be met by hand -/
structure HoldOn : Prop where

/-- names for the newest entries of a ledger -/
theorem name1 {P : Prop} {h₀ h : Heap} {L a : Addr} {o : Obj} {r : List (Addr × Obj)} (_N : News h₀ L h ((a, o) :: r)) (k : ∀ a', a' = a → P) : P := k a rfl
theorem name2 {P : Prop} {h₀ h : Heap} {L a b : Addr} {o o2 : Obj} {r : List (Addr × Obj)} (_N : News h₀ L h ((a, o) :: (b, o2) :: r)) (k : ∀ a' b', a' = a → b' = b → P) : P := k a b rfl rfl

theorem ne_of_lts {d : Addr} {l : List (Addr × Obj)} (h : ∀ p ∈ l, p.1 < d) : ∀ p ∈ l, p.1 ≠ d := fun p hp => Nat.ne_of_lt (h p hp)
theorem ne_of_allLt {d : Addr} {l : List (Addr × Obj)} (h : AllLt d l) : ∀ p ∈ l, p.1 ≠ d := by
  induction l with
  | nil => exact fun _ hp => nomatch hp
  | cons q r ih => exact List.forall_mem_cons.mpr ⟨Nat.ne_of_lt h.1, ih h.2⟩
theorem all_app {d : Addr} {l r : List (Addr × Obj)} (h : ∀ p ∈ l, p.1 ≠ d) (h2 : ∀ p ∈ r, p.1 ≠ d) : ∀ p ∈ l ++ r, p.1 ≠ d := List.forall_mem_append.mpr ⟨h, h2⟩

/-- the end of a turn of a loop that fills one list of texts -/
theorem rows_end {P : List Int → List Value × List Str × Nat → Prop} {pre : List Int} {h₀ : Heap} {L row : Addr} {m₀ m' : Str → Option Value} {x : Str} {stored : List Str} {news own r : List (Addr × Obj)} {adr : List Addr} {s₁ : Shared} {h' : Heap} {tk : Nat} {vs : List Value} {xs : List Str} {ep : Nat}
    (F : Fr h₀ L h' m') (N : News h₀ L h' ((row, W.listOf vs.toArray ep) :: r)) (hv : StrsAre vs xs) (h1 : ∀ p ∈ news, p ∈ r) (h2 : ∀ p ∈ own, p ∈ r) (ha : row :: news.map (·.1) = adr)
    (hr : ∀ z, z ≠ x → (∀ p ∈ ([] : List (Str × Value)), z ≠ p.1) → stored.contains z = false → m' z = m₀ z) (hp : P pre (vs, xs, ep)) :
    InvEndN h₀ L (KstS (σ := List Value × List Str × Nat) (fun c => (row, W.listOf c.1.toArray c.2.2) :: news) (fun _ => []) (fun c => StrsAre c.1 c.2.1) x stored m₀ P pre) own adr s₁ { s₁ with heap := h', toks := tk } :=
  kst_end (σ := List Value × List Str × Nat) (vs, xs, ep) F N (fun p hp => (List.mem_cons.mp hp).elim (fun e => e ▸ .head _) fun hp => .tail _ (h1 p hp)) (fun p hp => .tail _ (h2 p hp)) ha hv (fun _ hp => nomatch hp) hr hp

local macro_rules | `(tactic| walk_at $s:str) => `(tactic| k_extra $s)
theorem word_1 : True := by
  (k_with "mine tidy" => (
  repeat (first | (k_unfold) | (dsimp only))))
  trivial
theorem word_2 : True := by
  (k_with "mine end" => (
  (walk_at "mine tidy")
  (unfold Back)
  refine ⟨_, _, _, _, _, rfl, by k_asm, by k_asm, ?_⟩))
  trivial
theorem word_3 : True := by
  (k_with "mine pure" => (
  (walk_at "mine tidy")
  (unfold Back)
  refine ⟨_, _, _, _, _, rfl, by k_asm, ?mNzh, And.intro rfl ?_⟩
  (case mNzh => first | k_asm | (refine' cb_drop ?cbNzh ?cbSzh; (case cbNzh => assumption); (case cbSzh => kcj_all)))))
  trivial
theorem word_4 : True := by
  (k_with "exec For Name Name cons nil" => ((rename HoldOn => hOnzq); k_here; (rename Fr _ _ _ _ => lF'zq); (with_unfolding_all refine' For_invVF lF'zq (by rfl) (by rfl) ?_); k_whole))
  trivial
theorem word_5 : True := by
  (k_with "exec For Name Attribute cons nil" => ((rename HoldOn => hOnzq); k_here; (rename Fr _ _ _ _ => lF'zq); (with_unfolding_all refine' For_invVF lF'zq (by rfl) (by rfl) ?_); k_whole))
  trivial
theorem word_6 : True := by
  (k_with "exec For Name Call cons nil" => ((rename HoldOn => hOnzq); k_here; (rename Fr _ _ _ _ => lF'zq); (with_unfolding_all refine' For_invVF lF'zq (by rfl) (by rfl) ?_); k_whole))
  trivial
theorem word_7 : True := by
  (k_with "exec For Name Subscript cons nil" => ((rename HoldOn => hOnzq); k_here; (rename Fr _ _ _ _ => lF'zq); (with_unfolding_all refine' For_invVF lF'zq (by rfl) (by rfl) ?_); k_whole))
  trivial
theorem word_8 : True := by
  (k_with "exec For Name List cons nil" => ((rename HoldOn => hOnzq); k_here; (rename Fr _ _ _ _ => lF'zq); (with_unfolding_all refine' For_invVF lF'zq (by rfl) (by rfl) ?_); k_whole))
  trivial
theorem word_9 : True := by
  (k_with "exec For Name Tuple cons nil" => ((rename HoldOn => hOnzq); k_here; (rename Fr _ _ _ _ => lF'zq); (with_unfolding_all refine' For_invVF lF'zq (by rfl) (by rfl) ?_); k_whole))
  trivial
theorem word_10 : True := by
  (k_with "exec For Tuple Name cons nil" => ((rename HoldOn => hOnzq); k_here; (rename Fr _ _ _ _ => lF'zq); (with_unfolding_all refine' For_invTF lF'zq ?_ (by intro _; rfl)); k_whole))
  trivial
theorem word_11 : True := by
  (k_with "exec For Tuple Attribute cons nil" => ((rename HoldOn => hOnzq); k_here; (rename Fr _ _ _ _ => lF'zq); (with_unfolding_all refine' For_invTF lF'zq ?_ (by intro _; rfl)); k_whole))
  trivial
theorem word_12 : True := by
  (k_with "exec For Tuple Call cons nil" => ((rename HoldOn => hOnzq); k_here; (rename Fr _ _ _ _ => lF'zq); (with_unfolding_all refine' For_invTF lF'zq ?_ (by intro _; rfl)); k_whole))
  trivial
local macro_rules | `(tactic| walk_at "pyIter ref") => `(tactic| ((rename HoldOn => hOn); refine Hold.mk ?_))
local macro_rules | `(tactic| walk_at "pyIter str") => `(tactic| ((rename HoldOn => hOn); refine Hold.mk ?_))
theorem word_13 : True := by
  (k_with "exec While Compare cons nil" => ((rename HoldOn => hOnzq); refine Hold.mk ?_))
  trivial
theorem word_14 : True := by
  (k_with "exec While BoolOp cons nil" => ((rename HoldOn => hOnzq); refine Hold.mk ?_))
  trivial
theorem word_15 : True := by
  (k_with "exec While Constant cons nil" => ((rename HoldOn => hOnzq); refine Hold.mk ?_))
  trivial
local macro_rules | `(tactic| k_mem) => `(tactic| first | assumption | (refine List.mem_append_left _ ?_; k_mem) | (refine List.mem_append_right _ ?_; k_mem))
local macro_rules | `(tactic| k_all) => `(tactic| first
  | assumption
  | exact ne_of_lts (by assumption)
  | exact ne_of_allLt (by assumption)
  | exact OwnOff.ne (by assumption) (by k_memK)
  | (refine' all_app ?a9 ?b9; (case a9 => k_all); (case b9 => k_all)))
local macro_rules | `(tactic| size_fits) => `(tactic| ((try simp only [List.size_toArray, Array.size_push, List.length_append, List.length_cons, List.length_nil]); (rw [PySem.sizeLine_eq]); omega))
theorem word_16 : True := by
  (k_with "InvEndN" => ((rename HoldOn => hOnzq); refine Hold.mk ?_))
  trivial
theorem word_17 : True := by
  (k_with "InvEndG" => ((rename HoldOn => hOnzq); refine Hold.mk ?_))
  trivial
theorem word_18 : True := by
  (k_with "call builtin:str.join" => (k_here; (refine' join_listW (ys := _) ?lzh ?izh ?pzh ?wzh ?_; (case lzh => exact News.isList (by k_asm) (by k_mem)); (case izh => assumption); (case pzh => decide); (case wzh => first | assumption | omega); k_whole); intro _ _))
  trivial
theorem word_19 : True := by
  (k_with "KswEnd" => ((rename HoldOn => hOnzq); refine Hold.mk ?_))
  trivial
theorem word_20 : True := by
  (k_with "compareOp NotEq ref ref" => (k_here; (with_reducible show wpAny _ _ (compareOp CmpOp.NotEq (Value.ref _) (Value.ref _)) _ _ _); k_dflt (refine' ne_intsK ?k1zh ?k2zh ?k3zh ?k4zh ?k5zh ?_; (case k1zh => exact News.isList (by k_asm) (by k_mem)); (case k2zh => first | assumption | exact IntsAre.nil); (case k3zh => exact News.isList (by k_asm) (by k_mem)); (case k4zh => first | assumption | exact IntsAre.nil); (case k5zh => ktr_units); k_whole)))
  trivial
local macro_rules | `(tactic| k_room) => `(tactic| ktr_room)
local macro_rules | `(tactic| k_units) => `(tactic| ktr_units)
theorem word_21 : True := by
  (k_with "call type:range" => ((rename HoldOn => hOnzq); (rename Fr _ _ _ _ => F'zq); (rename News _ _ _ _ => N'zq); first
  | (with_unfolding_all refine range1_rows F'zq N'zq ?_; intro _ _ _ _ _ _ _ _ _)
  | (with_unfolding_all refine range2_rows F'zq N'zq ?_; intro _ _ _ _ _ _ _ _ _)))
  trivial
local macro_rules | `(tactic| k_get) => `(tactic| assumption)
theorem fill (w : World) : (pre.heap_1 w.params, Challenge.rw_on0115_01.row.prog) = (pre.heap_1 w.params, Challenge.rw_on0115_01.row.prog) := by
  k_fill
  rfl

abbrev tupObj (vs : List Value) (n : Nat) : Obj := { cls := .type "tuple", data := .seq vs.toArray n }

theorem bitOf (a : Int) (i : Int) : Builtin.bitAnd (a.fdiv (2 ^ i.toNat)) 1 = a / 2 ^ i.toNat % 2 := by
  rw [bitAnd_m1, Int.fdiv_eq_ediv_of_nonneg _ (Int.pow_nonneg (by decide))]

/-- the sign's number, as `code` reckons it -/
def codeZ (a b i : Int) : Int := a / 2 ^ i.toNat % 2 + 2 * (b / 2 ^ i.toNat % 2)

theorem codeZ_lo (a b i : Int) : 0 ≤ codeZ a b i := by unfold codeZ; omega
theorem codeZ_hi (a b i : Int) : codeZ a b i < 4 := by unfold codeZ; omega
theorem code_spec (w : World) (news : List (Addr × Obj)) (v : Addr) (n : Nat) (wd a b i : Int) (t0 t1 t2 t3 : Tok) (hm : (v, tupObj [.int wd t0, .int a t1, .int b t2] n) ∈ news) (hi : 0 ≤ i ∧ i < 5) :
    Spec w 61 [.ref v, .int i t3] 1 8 news (fun r news' => news' = news ∧ ∃ t, r = .int (codeZ a b i) t ∧ 0 ≤ codeZ a b i ∧ codeZ a b i < 4) := by
  refine' Spec.of_body (binds := [("v", .ref v), ("i", .int i t3)]) ?ho ?hcd ?hb ?hl (by decide) ?c2 ?c3 ?c4 ?c5 ?_
  (case ho => k_dflt k_is)
  (case hcd => k_dflt k_is)
  (case hb => intro s; exact BindsTo.of_eq rfl)
  (case hl => exact locs rfl)
  (case c2 => exact rfl)
  (case c3 => exact rfl)
  (case c4 => exact rfl)
  (case c5 => decide)
  k_whole
  intro dp0 un0 gd0 cn0 cs0 L0 a0 ccd0 cl0 outer0 base0 g0 L1 h1 p0 loose0 mean0 mg0 mb0 s0 tk0 B0 F0 X0 N0 T0 hdp hun hlt
  (try dsimp only [List.reverse_cons, List.reverse_nil, List.nil_append, List.cons_append] at F0)
  have hOn : HoldOn := ⟨⟩
  (try k_fold)
  k_steps
  walk_at "mine pure"
  refine ⟨_, congrArg (fun z => Value.int z _) ?_, codeZ_lo a b i, codeZ_hi a b i⟩
  rw [bitOf a i, bitOf b i]; rfl
theorem word_22 : True := by
  (k_with "call ref" => (k_here; (with_reducible show wpAny _ _ (call (Value.ref 61) _) _ _ _); k_dflt (refine' Spec.use (code_spec _ _ _ _ _ _ _ _ _ _ _ _ ?hmzh ?hizh) ?k1zh ?k2zh ?k3zh ?k4zh ?k5zh ?kKzh ?kdzh ?kuzh ?_; (case k1zh => k_asm); (case k2zh => k_asm); (case k3zh => k_asm); (case k4zh => k_asm); (case k5zh => k_asm); (case kKzh => first | exact rfl | assumption); (case kdzh => ktr_room); (case kuzh => ktr_units); (case hmzh => k_mem); (case hizh => omega)); intro r9zq nw9zq h9zq tk9zq F9zq N9zq hr9zq; obtain ⟨e9zq, t9zq, e9bzq, hc9zq, hd9zq⟩ := hr9zq; (have e8zq := e9zq.symm); (clear e9zq); (subst e8zq); (try subst e9bzq); (try dsimp only at N9zq); (try dsimp only); (try k_lt l9zq); (try k_sweep)))
  trivial


theorem extension_spec (w : World) (news : List (Addr × Obj)) (x : Str) (t : Tok) :
    Spec w 82 [.str x t] 1 8 news (fun r news' => news' = news ∧ ∃ t, r = .str (if x = Str.ofString "1" then Str.ofString "0" else x) t) := by
  refine' Spec.of_body (binds := [("sign", .str x t)]) ?ho ?hcd ?hb ?hl (by decide) ?c2 ?c3 ?c4 ?c5 ?_
  (case ho => k_dflt k_is)
  (case hcd => k_dflt k_is)
  (case hb => intro s; exact BindsTo.of_eq rfl)
  (case hl => exact locs rfl)
  (case c2 => exact rfl)
  (case c3 => exact rfl)
  (case c4 => exact rfl)
  (case c5 => decide)
  k_whole
  intro dp0 un0 gd0 cn0 cs0 L0 a0 ccd0 cl0 outer0 base0 g0 L1 h1 p0 loose0 mean0 mg0 mb0 s0 tk0 B0 F0 X0 N0 T0 hdp hun hlt
  (try dsimp only [List.reverse_cons, List.reverse_nil, List.nil_append, List.cons_append] at F0)
  have hOn : HoldOn := ⟨⟩
  (try k_fold)
  k_steps
  all_goals (dsimp only)
  all_goals (walk_at "mine pure")
  · rename_i he
    rw [if_pos (eq_of_beq he)]; exact ⟨_, rfl⟩
  · rename_i he
    rw [if_neg (ne_of_beq_false he)]; exact ⟨_, rfl⟩
abbrev LAY : Str := Str.ofString " \t\x0d\n\x0b\x0c"
theorem is_layout_spec (w : World) (news : List (Addr × Obj)) (x : Str) (t : Tok) :
    Spec w 96 [.str x t] 1 8 news (fun r news' => news' = news ∧ r = .bool (!(Builtin.Str.occurrences LAY x 0 LAY.length 1).isEmpty)) := by
  refine' Spec.of_body (binds := [("sign", .str x t)]) ?ho ?hcd ?hb ?hl (by decide) ?c2 ?c3 ?c4 ?c5 ?_
  (case ho => k_dflt k_is)
  (case hcd => k_dflt k_is)
  (case hb => intro s; exact BindsTo.of_eq rfl)
  (case hl => exact locs rfl)
  (case c2 => exact rfl)
  (case c3 => exact rfl)
  (case c4 => exact rfl)
  (case c5 => decide)
  k_whole
  intro dp0 un0 gd0 cn0 cs0 L0 a0 ccd0 cl0 outer0 base0 g0 L1 h1 p0 loose0 mean0 mg0 mb0 s0 tk0 B0 F0 X0 N0 T0 hdp hun hlt
  (try dsimp only [List.reverse_cons, List.reverse_nil, List.nil_append, List.cons_append] at F0)
  have hOn : HoldOn := ⟨⟩
  (try k_fold)
  k_steps
  walk_at "mine pure"
  rfl
theorem word_23 : True := by
  (k_with "call ref" => (k_here; (with_reducible show wpAny _ _ (call (Value.ref 96) _) _ _ _); k_dflt (refine' Spec.use (is_layout_spec _ _ _ _) ?k1zh ?k2zh ?k3zh ?k4zh ?k5zh ?kKzh ?kdzh ?kuzh ?_; (case k1zh => k_asm); (case k2zh => k_asm); (case k3zh => k_asm); (case k4zh => k_asm); (case k5zh => k_asm); (case kKzh => first | exact rfl | assumption); (case kdzh => ktr_room); (case kuzh => ktr_units)); intro r9zq nw9zq h9zq tk9zq F9zq N9zq hr9zq; obtain ⟨e9zq, e9bzq⟩ := hr9zq; (have e8zq := e9zq.symm); (clear e9zq); (subst e8zq); (try subst e9bzq); (try dsimp only at N9zq); (try dsimp only); (try k_lt l9zq); (try k_sweep)))
  trivial
theorem word_24 : True := by
  (k_with "call ref" => (k_here; (with_reducible show wpAny _ _ (call (Value.ref 82) _) _ _ _); k_dflt (refine' Spec.use (extension_spec _ _ _ _) ?k1zh ?k2zh ?k3zh ?k4zh ?k5zh ?kKzh ?kdzh ?kuzh ?_; (case k1zh => k_asm); (case k2zh => k_asm); (case k3zh => k_asm); (case k4zh => k_asm); (case k5zh => k_asm); (case kKzh => first | exact rfl | assumption); (case kdzh => ktr_room); (case kuzh => ktr_units)); intro r9zq nw9zq h9zq tk9zq F9zq N9zq hr9zq; obtain ⟨e9zq, t9zq, e9bzq⟩ := hr9zq; (have e8zq := e9zq.symm); (clear e9zq); (subst e8zq); (try subst e9bzq); (try dsimp only at N9zq); (try dsimp only); (try k_lt l9zq); (try k_sweep)))
  trivial

theorem check_word_spec (w : World) (news : List (Addr × Obj)) (x k : Str) (t t2 : Tok) (hw1 : (x == Str.ofString "") = false) (hw2 : (x == Str.ofString "$end") = false)
    (hw3 : ∀ n ∈ x.cps.toList, (Builtin.Str.occurrences LAY ⟨#[n]⟩ 0 LAY.length 1).isEmpty = true) :
    Spec w 103 [.str x t, .str k t2] 2 16 news (fun r news' => news' = news ∧ r = .none) := by
  refine' Spec.of_body (binds := [("word", .str x t), ("kind", .str k t2)]) ?ho ?hcd ?hb ?hl (by decide) ?c2 ?c3 ?c4 ?c5 ?_
  (case ho => k_dflt k_is)
  (case hcd => k_dflt k_is)
  (case hb => intro s; exact BindsTo.of_eq rfl)
  (case hl => exact locs rfl)
  (case c2 => exact rfl)
  (case c3 => exact rfl)
  (case c4 => exact rfl)
  (case c5 => decide)
  k_whole
  intro dp0 un0 gd0 cn0 cs0 L0 a0 ccd0 cl0 outer0 base0 g0 L1 h1 p0 loose0 mean0 mg0 mb0 s0 tk0 B0 F0 X0 N0 T0 hdp hun hlt
  (try dsimp only [List.reverse_cons, List.reverse_nil, List.nil_append, List.cons_append] at F0)
  have hOn : HoldOn := ⟨⟩
  (try k_fold)
  k_steps
  refine Hold.of ?_
  refine' KStt.kst_text (σ := Unit) (fun _ => news) (fun _ => []) (fun _ => True) [] (fun _ _ => True) () (by rfl) (by assumption) (by assumption) trivial (fun _ hp => nomatch hp) trivial ?turn ?done
  · intro c pre post n t' u h' tk' own hE hoff _ _ F' N'
    dsimp only [kstB] at F'
    have hn := hw3 n (by
      have h9 : (n : Int) ∈ KStt.codes x := by rw [hE]; simp
      obtain ⟨a, ha, e⟩ := List.mem_map.mp h9
      have e' : a = n := by omega
      exact e' ▸ ha)
    (try k_fold)
    k_steps
    refine Hold.of ?_
    (rename Fr _ _ _ _ => eF)
    (rename News _ _ _ _ => eN)
    (try simp only [List.push_toArray] at eN)
    exact kst_end (σ := Unit) () eF eN (fun p hp => List.mem_append_left _ hp) (fun p hp => List.mem_append_right _ hp) rfl trivial (fun _ hp => nomatch hp) (by kst_same) trivial
  · intro c u h' tk' _ _ F' N'
    k_steps
    walk_at "mine pure"
    rfl
theorem word_25 : True := by
  (k_with "call ref" => (k_here; (with_reducible show wpAny _ _ (call (Value.ref 103) _) _ _ _); k_dflt (refine' Spec.use (check_word_spec _ _ _ _ _ _ ?h1zh ?h2zh ?h3zh) ?k1zh ?k2zh ?k3zh ?k4zh ?k5zh ?kKzh ?kdzh ?kuzh ?_; (case k1zh => k_asm); (case k2zh => k_asm); (case k3zh => k_asm); (case k4zh => k_asm); (case k5zh => k_asm); (case kKzh => first | exact rfl | assumption); (case kdzh => ktr_room); (case kuzh => ktr_units); (case h1zh => first | assumption | decide +kernel); (case h2zh => first | assumption | decide +kernel); (case h3zh => first | assumption | decide +kernel)); intro r9zq nw9zq h9zq tk9zq F9zq N9zq hr9zq; obtain ⟨e9zq, e9bzq⟩ := hr9zq; (have e8zq := e9zq.symm); (clear e9zq); (subst e8zq); (try subst e9bzq); (try dsimp only at N9zq); (try dsimp only); (try k_lt l9zq); (try k_sweep)))
  trivial

/-- a sign as `bits_text` picks it -/
def sgnT (c : Int) : Str := Txt.item (Str.ofString "01zx") c
/-- the text of a value, leftmost sign first -/
def bitsT (wd a b : Int) : Str := Txt.join (Str.ofString "") ((downKs (wd - 1) wd.toNat).map fun i => sgnT (codeZ a b i))
theorem sum_len1 {l : List Str} (h : ∀ y ∈ l, y.length ≤ 1) : (l.map (·.length)).sum ≤ l.length := by
  induction l with
  | nil => simp
  | cons y r ih =>
    have h1 := h y (.head _)
    have h2 := ih fun z hz => h z (.tail _ hz)
    simp only [List.map_cons, List.sum_cons, List.length_cons]
    omega
theorem bits_text_spec (w : World) (news : List (Addr × Obj)) (v : Addr) (n : Nat) (wd a b : Int) (t0 t1 t2 : Tok) (hm : (v, tupObj [.int wd t0, .int a t1, .int b t2] n) ∈ news) (hw : 1 ≤ wd ∧ wd ≤ 5) :
    Spec w 68 [.ref v] 2 16 news (fun r news' => news' = news ∧ ∃ t, r = .str (bitsT wd a b) t) := by
  have hw1 : 0 < wd := by omega
  have hw2 : wd < 1000 := by omega
  have hwH := Hold.of hw
  clear hw
  refine' Spec.of_body (binds := [("v", .ref v)]) ?ho ?hcd ?hb ?hl (by decide) ?c2 ?c3 ?c4 ?c5 ?_
  (case ho => k_dflt k_is)
  (case hcd => k_dflt k_is)
  (case hb => intro s; exact BindsTo.of_eq rfl)
  (case hl => exact locs rfl)
  (case c2 => exact rfl)
  (case c3 => exact rfl)
  (case c4 => exact rfl)
  (case c5 => decide)
  k_whole
  intro dp0 un0 gd0 cn0 cs0 L0 a0 ccd0 cl0 outer0 base0 g0 L1 h1 p0 loose0 mean0 mg0 mb0 s0 tk0 B0 F0 X0 N0 T0 hdp hun hlt
  (try dsimp only [List.reverse_cons, List.reverse_nil, List.nil_append, List.cons_append] at F0)
  have hOn : HoldOn := ⟨⟩
  (try k_fold)
  k_steps
  refine Hold.of ?_
  have hwd : ∃ k : Nat, wd = k ∧ k ≤ 5 := ⟨wd.toNat, by have := hwH; unfold Hold at this; omega, by have := hwH; unfold Hold at this; omega⟩
  obtain ⟨k, rfl, hk5⟩ := hwd
  refine name1 (by assumption) fun row e => ?_
  subst e
  refine' kst_rangeD (σ := List Value × List Str × Nat) (n := k) (fun c => (row, W.listOf c.1.toArray c.2.2) :: news) (fun _ => []) (fun c => StrsAre c.1 c.2.1) [] (fun pre c => c.2.1 = pre.map fun i => sgnT (codeZ a b i)) ([], [], 0) (by rfl) (by assumption) ?sm ?rs (by assumption) (by assumption) .nil (fun _ hp => nomatch hp) rfl ?turn ?done
  · exact small_down (by omega) (by omega) (by omega) (by omega)
  · rw [rangeSize_downNat]; omega
  · rintro ⟨vs, xs, ep⟩ pre i t' u h' tk' own hi hlt' hoff hvs hxs F' N'
    dsimp only [kstB] at F' N' hvs hxs
    simp only [List.cons_append, List.map_cons] at N' hoff
    have hlen : vs.length < 100 := by rw [hvs.length, hxs, List.length_map]; omega
    (try k_fold)
    k_steps
    refine Hold.of ?_
    (rename Fr _ _ _ _ => eF)
    (rename News _ _ _ _ => eN)
    (try simp only [List.push_toArray] at eN)
    exact rows_end eF eN (StrsAre.append' hvs (.cons (sgnT (codeZ a b i)) _ .nil)) (fun p hp => List.mem_append_left _ hp) (fun p hp => List.mem_append_right _ hp) rfl (by kst_same) (by rw [hxs, List.map_append]; rfl)
  · rintro ⟨vs, xs, ep⟩ u h' tk' hvs hxs F' N'
    dsimp only [kstB] at F' N' hvs hxs
    have hw : (xs.map (·.length)).sum + xs.length ≤ 1048576 := by
      have h9 := sum_len1 (l := xs) (fun y hy => by rw [hxs] at hy; obtain ⟨c, _, rfl⟩ := List.mem_map.mp hy; exact Nat.le_refl 1)
      have h8 : xs.length = k := by rw [hxs, List.length_map, downKs_length]
      omega
    (try k_fold)
    k_steps
    walk_at "mine pure"
    subst hxs
    exact ⟨_, rfl⟩
theorem word_26 : True := by
  (k_with "call ref" => (k_here; (with_reducible show wpAny _ _ (call (Value.ref 68) _) _ _ _); k_dflt (refine' Spec.use (bits_text_spec _ _ _ _ _ _ _ _ _ _ ?hmzh ?hwzh) ?k1zh ?k2zh ?k3zh ?k4zh ?k5zh ?kKzh ?kdzh ?kuzh ?_; (case k1zh => k_asm); (case k2zh => k_asm); (case k3zh => k_asm); (case k4zh => k_asm); (case k5zh => k_asm); (case kKzh => first | exact rfl | assumption); (case kdzh => ktr_room); (case kuzh => ktr_units); (case hmzh => k_mem); (case hwzh => first | assumption | omega)); intro r9zq nw9zq h9zq tk9zq F9zq N9zq hr9zq; obtain ⟨e9zq, t9zq, e9bzq⟩ := hr9zq; (have e8zq := e9zq.symm); (clear e9zq); (subst e8zq); (try subst e9bzq); (try dsimp only at N9zq); (try dsimp only); (try k_lt l9zq); (try k_sweep)))
  trivial

/-- the sign that may be left out before the sign y -/
abbrev extT (y : Str) : Str := if y = Str.ofString "1" then Str.ofString "0" else y
/-- the sign at place j of x may be left out -/
def condS (x : Str) (j : Int) : Prop := j + 1 < (x.length : Int) ∧ Txt.item x j = extT (Txt.item x (j + 1))
/-- y is x without the signs that may be left out -/
def Short (x y : Str) : Prop := ∃ k : Int, 0 ≤ k ∧ (∀ j : Int, 0 ≤ j → j < k → condS x j) ∧ ¬ condS x k ∧ y = Txt.slice x (some k) none

theorem shortened_spec (w : World) (news : List (Addr × Obj)) (x : Str) (t : Tok) (hx : 1 ≤ x.length) (hx2 : x.length < 1000) :
    Spec w 89 [.str x t] 2 16 news (fun r news' => news' = news ∧ ∃ y t, r = .str y t ∧ Short x y ∧ y.length ≤ x.length) := by
  refine' Spec.of_body (binds := [("text", .str x t)]) ?ho ?hcd ?hb ?hl (by decide) ?c2 ?c3 ?c4 ?c5 ?_
  (case ho => k_dflt k_is)
  (case hcd => k_dflt k_is)
  (case hb => intro s; exact BindsTo.of_eq rfl)
  (case hl => exact locs rfl)
  (case c2 => exact rfl)
  (case c3 => exact rfl)
  (case c4 => exact rfl)
  (case c5 => decide)
  k_whole
  intro dp0 un0 gd0 cn0 cs0 L0 a0 ccd0 cl0 outer0 base0 g0 L1 h1 p0 loose0 mean0 mg0 mb0 s0 tk0 B0 F0 X0 N0 T0 hdp hun hlt
  (try dsimp only [List.reverse_cons, List.reverse_nil, List.nil_append, List.cons_append] at F0)
  have hOn : HoldOn := ⟨⟩
  (try k_fold)
  k_steps
  refine Hold.of ?_
  refine' ksw_while (σ := Int × Tok) (fun _ => news) (fun c => [(Str.ofString "start", .int c.1 c.2)]) (fun _ => True) [] (fun c => 0 ≤ c.1 ∧ c.1 < (x.length : Int) ∧ ∀ j : Int, 0 ≤ j → j < c.1 → condS x j) (fun c => ((x.length : Int) - c.1).toNat) (0, _) (by assumption) (by assumption) trivial ?ps ?pp ?turn
  case ps => exact List.forall_mem_cons.mpr ⟨by with_unfolding_all rfl, List.forall_mem_nil _⟩
  case pp => exact ⟨Int.le_refl 0, by dsimp only; omega, fun j h1 h2 => absurd h1 (by dsimp only at h2; omega)⟩
  case turn =>
    rintro ⟨i, ti⟩ u h' tk' _ ⟨hi0, hi1, hi2⟩ F' N'
    dsimp only [kstB] at F' N' hi0 hi1 hi2
    (try k_fold)
    k_steps
    · refine Hold.of ?_
      (rename Fr _ _ _ _ => eF)
      (rename News _ _ _ _ => eN)
      (try simp only [List.push_toArray] at eN)
      have hc : condS x i := ⟨by assumption, eq_of_beq (a := Txt.item x i) (b := extT (Txt.item x (i + 1))) (by assumption)⟩
      exact ksw_end (σ := Int × Tok) (i + 1, _) eF eN (fun _ hp => hp) trivial (List.forall_mem_cons.mpr ⟨by with_unfolding_all rfl, List.forall_mem_nil _⟩) (by ksw_same)
        ⟨by dsimp only; omega, by assumption, fun j h1 h2 => by dsimp only at h2; by_cases h3 : j = i; exact h3 ▸ hc; exact hi2 j h1 (by omega)⟩ (by dsimp only; omega)
    · walk_at "mine pure"
      refine ⟨_, _, rfl, ⟨i, hi0, hi2, fun hc => ?_, rfl⟩, by assumption⟩
      exact ne_of_beq_false (a := Txt.item x i) (b := extT (Txt.item x (i + 1))) (by assumption) hc.2
    · walk_at "mine pure"
      exact ⟨_, _, rfl, ⟨i, hi0, hi2, fun hc => absurd hc.1 (by assumption), rfl⟩, by assumption⟩
theorem word_27 : True := by
  (k_with "call ref" => (k_here; (with_reducible show wpAny _ _ (call (Value.ref 89) _) _ _ _); k_dflt (refine' Spec.use (shortened_spec _ _ _ _ ?h1zh ?h2zh) ?k1zh ?k2zh ?k3zh ?k4zh ?k5zh ?kKzh ?kdzh ?kuzh ?_; (case k1zh => k_asm); (case k2zh => k_asm); (case k3zh => k_asm); (case k4zh => k_asm); (case k5zh => k_asm); (case kKzh => first | exact rfl | assumption); (case kdzh => ktr_room); (case kuzh => ktr_units); (case h1zh => omega); (case h2zh => omega)); intro r9zq nw9zq h9zq tk9zq F9zq N9zq hr9zq; obtain ⟨e9zq, y9zq, t9zq, e9bzq, hs9zq, hy9zq⟩ := hr9zq; (have e8zq := e9zq.symm); (clear e9zq); (subst e8zq); (try subst e9bzq); (try dsimp only at N9zq); (try dsimp only); (try k_lt l9zq); (try k_sweep)))
  trivial

theorem join_len0 : ∀ l : List Str, (Txt.join (Str.ofString "") l).length = (l.map (·.length)).sum := by
  intro l
  show (Builtin.Str.glued _ l).length = _
  rw [StrLaws.glued_eq_join]
  cases l with
  | nil => rfl
  | cons x r => rw [len_join_cons]; simp only [show (Str.ofString "").length = 0 from rfl, Nat.mul_zero, Nat.add_zero]
theorem sum_ones {α : Type} (f : α → Str) (h : ∀ a, (f a).length = 1) : ∀ l : List α, ((l.map f).map (·.length)).sum = l.length := by
  intro l
  induction l with
  | nil => rfl
  | cons y r ih => simp only [List.map_cons, List.sum_cons, List.length_cons, h y, ih]; omega
theorem bitsT_len (wd a b : Int) : (bitsT wd a b).length = wd.toNat := by
  unfold bitsT
  rw [join_len0, sum_ones _ (fun c => rfl), downKs_length]
/-- what change_row hands back -/
def ChRow (wd : Int) (nm : Str) (a b : Int) (y : Str) : Prop :=
  (wd = 1 ∧ y = bitsT wd a b ++ nm) ∨ (wd ≠ 1 ∧ ∃ z, Short (bitsT wd a b) z ∧ y = Str.ofString "b" ++ z ++ Str.ofString " " ++ nm)

theorem change_row_spec (w : World) (news : List (Addr × Obj)) (v : Addr) (n : Nat) (wd a b : Int) (nm : Str) (t t' t0 t1 t2 : Tok) (hm : (v, tupObj [.int wd t0, .int a t1, .int b t2] n) ∈ news) (hw : 1 ≤ wd ∧ wd ≤ 5) (hn : nm.length ≤ 100) :
    Spec w 110 [.int wd t, .str nm t', .ref v] 3 24 news (fun r news' => news' = news ∧ ∃ y t, r = .str y t ∧ ChRow wd nm a b y) := by
  refine' Spec.of_body (binds := [("width", .int wd t), ("name", .str nm t'), ("value", .ref v)]) ?ho ?hcd ?hb ?hl (by decide) ?c2 ?c3 ?c4 ?c5 ?_
  (case ho => k_dflt k_is)
  (case hcd => k_dflt k_is)
  (case hb => intro s; exact BindsTo.of_eq rfl)
  (case hl => exact locs rfl)
  (case c2 => exact rfl)
  (case c3 => exact rfl)
  (case c4 => exact rfl)
  (case c5 => decide)
  k_whole
  intro dp0 un0 gd0 cn0 cs0 L0 a0 ccd0 cl0 outer0 base0 g0 L1 h1 p0 loose0 mean0 mg0 mb0 s0 tk0 B0 F0 X0 N0 T0 hdp hun hlt
  (try dsimp only [List.reverse_cons, List.reverse_nil, List.nil_append, List.cons_append] at F0)
  have hOn : HoldOn := ⟨⟩
  (try k_fold)
  have hbl := bitsT_len wd a b
  k_steps
  · walk_at "mine pure"
    exact ⟨_, _, rfl, .inl ⟨by assumption, rfl⟩⟩
  · walk_at "mine pure"
    exact ⟨_, _, rfl, .inr ⟨by assumption, _, by assumption, rfl⟩⟩
/-- the name of a variable, by its number -/
def idT (k : Int) : Str := if k = 0 then Str.ofString "!" else if k = 1 then Str.ofString "\"" else if k = 2 then Str.ofString "#" else Str.ofString "$"
theorem id_text_spec (w : World) (news : List (Addr × Obj)) (k : Int) (t : Tok) (hk : 0 ≤ k ∧ k < 4) :
    Spec w 75 [.int k t] 2 16 news (fun r news' => news' = news ∧ ∃ t, r = .str (idT k) t) := by
  have h4 : k = 0 ∨ k = 1 ∨ k = 2 ∨ k = 3 := by omega
  clear hk
  refine' Spec.of_body (binds := [("number", .int k t)]) ?ho ?hcd ?hb ?hl (by decide) ?c2 ?c3 ?c4 ?c5 ?_
  (case ho => k_dflt k_is)
  (case hcd => k_dflt k_is)
  (case hb => intro s; exact BindsTo.of_eq rfl)
  (case hl => exact locs rfl)
  (case c2 => exact rfl)
  (case c3 => exact rfl)
  (case c4 => exact rfl)
  (case c5 => decide)
  k_whole
  intro dp0 un0 gd0 cn0 cs0 L0 a0 ccd0 cl0 outer0 base0 g0 L1 h1 p0 loose0 mean0 mg0 mb0 s0 tk0 B0 F0 X0 N0 T0 hdp hun hlt
  (try dsimp only [List.reverse_cons, List.reverse_nil, List.nil_append, List.cons_append] at F0)
  have hOn : HoldOn := ⟨⟩
  (try k_fold)
  clear hOn
  rcases h4 with rfl | rfl | rfl | rfl
  all_goals (k_steps; walk_at "mine pure"; exact ⟨_, rfl⟩)
theorem word_28 : True := by
  (k_with "call ref" => (k_here; (with_reducible show wpAny _ _ (call (Value.ref 75) _) _ _ _); k_dflt (refine' Spec.use (id_text_spec _ _ _ _ ?hkzh) ?k1zh ?k2zh ?k3zh ?k4zh ?k5zh ?kKzh ?kdzh ?kuzh ?_; (case k1zh => k_asm); (case k2zh => k_asm); (case k3zh => k_asm); (case k4zh => k_asm); (case k5zh => k_asm); (case kKzh => first | exact rfl | assumption); (case kdzh => ktr_room); (case kuzh => ktr_units); (case hkzh => first | assumption | omega)); intro r9zq nw9zq h9zq tk9zq F9zq N9zq hr9zq; obtain ⟨e9zq, t9zq, e9bzq⟩ := hr9zq; (have e8zq := e9zq.symm); (clear e9zq); (subst e8zq); (try subst e9bzq); (try dsimp only at N9zq); (try dsimp only); (try k_lt l9zq); (try k_sweep)))
  trivial

/-- the signs as the law puts them together, from the right -/
def sgnCat (a b : Int) (l : List Int) : Str := l.foldl (fun acc i => sgnT (codeZ a b i) ++ acc) (Str.ofString "")
theorem sgnCat_snoc (a b : Int) (l : List Int) (i : Int) : sgnCat a b (l ++ [i]) = sgnT (codeZ a b i) ++ sgnCat a b l := by
  unfold sgnCat; rw [List.foldl_append]; rfl
theorem sgnCat_len (a b : Int) (l : List Int) : (sgnCat a b l).length = l.length := by
  have h : ∀ (l : List Int) (acc : Str), (l.foldl (fun acc i => sgnT (codeZ a b i) ++ acc) acc).length = l.length + acc.length := by
    intro l
    induction l with
    | nil => intro acc; simp
    | cons i r ih => intro acc; rw [List.foldl_cons, ih, Str.length_append, List.length_cons, show (sgnT (codeZ a b i)).length = 1 from rfl]; omega
  have h9 := h l (Str.ofString "")
  rw [show (Str.ofString "").length = 0 from rfl, Nat.add_zero] at h9
  exact h9

theorem fmod2 (z : Int) : z.fmod 2 = 0 ∨ z.fmod 2 = 1 := by
  rw [Int.fmod_eq_emod_of_nonneg _ (by decide)]; omega
theorem sub_two {prog : Program} {w : World} {A : Around} {E : Value → Shared → Prop} {s : Shared} {h₀ : Heap} {L : Addr} {news : List (Addr × Obj)} {value slice : PySem.Expr} {l : Addr} {x0 x1 : Value} {n : Nat} {k : Int} {u : Tok} {Q : Value → Shared → Prop}
    (N : News h₀ L s.heap news) (hm : (l, W.listOf #[x0, x1] n) ∈ news) (hk : k = 0 ∨ k = 1) (h0 : k = 0 → Q x0 s) (h1 : k = 1 → Q x1 s)
    (hs : subscripted slice false (.ref l) (.int k u) = operate [.ref l, .int k u] (getItem (.ref l) (.int k u)) := by with_unfolding_all rfl) :
    wpAny (model prog w) A (subscriptTail value slice (.ref l) (.int k u)) Q E s := by
  have hl : s.heap.IsList l #[x0, x1] := News.isList N hm
  rcases hk with e | e
  · exact tail_any hl.typeIs slot_list_getitem.lookup (wpAny_getItem_list hl (by omega) (by omega) (by rw [e]; rfl) (h0 e)) hs
  · exact tail_any hl.typeIs slot_list_getitem.lookup (wpAny_getItem_list hl (by omega) (by omega) (by rw [e]; rfl) (h1 e)) hs
theorem word_29 : True := by
  (k_with "subscriptTail" => (k_here; (with_reducible show wpAny _ _ (subscriptTail _ _ (Value.ref _) (Value.int (Int.fmod _ 2) _)) _ _ _); k_dflt (refine' sub_two ?Nzh ?mzh (fmod2 _) ?_ ?_; (case Nzh => k_asm); (case mzh => k_mem)); (all_goals intro hk9zq)))
  trivial

theorem item_lo (c : Int) (h : c = 0 ∨ c = 1) : Txt.item (Str.ofString "01") c = sgnT c := by
  rcases h with rfl | rfl <;> decide +kernel
theorem item_hi (c : Int) (h : c = 0 ∨ c = 1) : Txt.item (Str.ofString "zx") c = sgnT (c + 2) := by
  rcases h with rfl | rfl <;> decide +kernel
theorem lo_code {a b i : Int} (h : (b.fdiv (2 ^ i.toNat)).fmod 2 = 0) : (a.fdiv (2 ^ i.toNat)).fmod 2 = codeZ a b i := by
  have hp : (0 : Int) ≤ 2 ^ i.toNat := Int.pow_nonneg (by decide)
  rw [Int.fmod_eq_emod_of_nonneg _ (by decide), Int.fdiv_eq_ediv_of_nonneg _ hp] at h
  rw [Int.fmod_eq_emod_of_nonneg _ (by decide), Int.fdiv_eq_ediv_of_nonneg _ hp]
  unfold codeZ; omega
theorem hi_code {a b i : Int} (h : (b.fdiv (2 ^ i.toNat)).fmod 2 = 1) : (a.fdiv (2 ^ i.toNat)).fmod 2 + 2 = codeZ a b i := by
  have hp : (0 : Int) ≤ 2 ^ i.toNat := Int.pow_nonneg (by decide)
  rw [Int.fmod_eq_emod_of_nonneg _ (by decide), Int.fdiv_eq_ediv_of_nonneg _ hp] at h
  rw [Int.fmod_eq_emod_of_nonneg _ (by decide), Int.fdiv_eq_ediv_of_nonneg _ hp]
  unfold codeZ; omega
theorem law_signs_spec (w : World) (news : List (Addr × Obj)) (v : Addr) (n : Nat) (wd a b : Int) (t0 t1 t2 : Tok) (hm : (v, tupObj [.int wd t0, .int a t1, .int b t2] n) ∈ news) (hw : 1 ≤ wd ∧ wd ≤ 5) (ha : 0 ≤ a ∧ a < 32) (hb : 0 ≤ b ∧ b < 32) :
    Spec w 328 [.ref v] 2 16 news (fun r news' => news' = news ∧ ∃ t, r = .str (sgnCat a b (rangeKs 0 wd.toNat)) t) := by
  have hw1 : 0 < wd := by omega
  have hw2 : wd < 1000 := by omega
  have hwH := Hold.of hw
  clear hw
  refine' Spec.of_body (binds := [("value", .ref v)]) ?ho ?hcd ?hb ?hl (by decide) ?c2 ?c3 ?c4 ?c5 ?_
  (case ho => k_dflt k_is)
  (case hcd => k_dflt k_is)
  (case hb => intro s; exact BindsTo.of_eq rfl)
  (case hl => exact locs rfl)
  (case c2 => exact rfl)
  (case c3 => exact rfl)
  (case c4 => exact rfl)
  (case c5 => decide)
  k_whole
  intro dp0 un0 gd0 cn0 cs0 L0 a0 ccd0 cl0 outer0 base0 g0 L1 h1 p0 loose0 mean0 mg0 mb0 s0 tk0 B0 F0 X0 N0 T0 hdp hun hlt
  (try dsimp only [List.reverse_cons, List.reverse_nil, List.nil_append, List.cons_append] at F0)
  have hOn : HoldOn := ⟨⟩
  (try k_fold)
  k_steps
  have hwd : ∃ k : Nat, wd = k ∧ k ≤ 5 := ⟨wd.toNat, by have := hwH; unfold Hold at this; omega, by have := hwH; unfold Hold at this; omega⟩
  obtain ⟨k, rfl, hk5⟩ := hwd
  refine Hold.of ?_
  refine' kst_range (σ := Str × Tok) (n := k) (fun c => news) (fun c => [(Str.ofString "signs", .str c.1 c.2)]) (fun _ => True) [Str.ofString "high", Str.ofString "low"] (fun pre c => c.1 = sgnCat a b pre) (Str.ofString "", _) (by rfl) (by assumption) ?sm ?rs (by assumption) (by assumption) trivial ?ps rfl ?turn ?done
  case sm => exact small_one (by omega) (by omega) (by omega) (by omega)
  case rs => exact (rangeSize_nat _ _).trans (by omega)
  case ps => exact List.forall_mem_cons.mpr ⟨by with_unfolding_all rfl, List.forall_mem_nil _⟩
  case turn =>
    rintro ⟨sg, tg⟩ pre i t' u h' tk' own hi hlt' hoff _ hsg F' N'
    dsimp only [kstB] at F' N' hsg
    have hl := sgnCat_len a b pre
    rw [← hsg] at hl
    (try k_fold)
    k_steps
    · refine Hold.of ?_
      (rename Fr _ _ _ _ => eF)
      (rename News _ _ _ _ => eN)
      (try simp only [List.push_toArray] at eN)
      have e : Txt.item (Str.ofString "01") ((a.fdiv (2 ^ i.toNat)).fmod 2) ++ sg = sgnCat a b (pre ++ [i]) := by
        rw [sgnCat_snoc, hsg, item_lo _ (fmod2 _), lo_code (by assumption)]
      rw [e] at eF
      exact kst_end (σ := Str × Tok) (sgnCat a b (pre ++ [i]), _) eF eN (fun p hp => .tail _ (List.mem_append_left _ hp)) (fun p hp => .tail _ (List.mem_append_right _ hp)) rfl trivial (List.forall_mem_cons.mpr ⟨by with_unfolding_all rfl, List.forall_mem_nil _⟩) (by kst_same) rfl
    · refine Hold.of ?_
      (rename Fr _ _ _ _ => eF)
      (rename News _ _ _ _ => eN)
      (try simp only [List.push_toArray] at eN)
      have e : Txt.item (Str.ofString "zx") ((a.fdiv (2 ^ i.toNat)).fmod 2) ++ sg = sgnCat a b (pre ++ [i]) := by
        rw [sgnCat_snoc, hsg, item_hi _ (fmod2 _), hi_code (by assumption)]
      rw [e] at eF
      exact kst_end (σ := Str × Tok) (sgnCat a b (pre ++ [i]), _) eF eN (fun p hp => .tail _ (List.mem_append_left _ hp)) (fun p hp => .tail _ (List.mem_append_right _ hp)) rfl trivial (List.forall_mem_cons.mpr ⟨by with_unfolding_all rfl, List.forall_mem_nil _⟩) (by kst_same) rfl
  case done =>
    rintro ⟨sg, tg⟩ u h' tk' _ hsg F' N'
    dsimp only [kstB] at F' N' hsg
    (try k_fold)
    k_steps
    walk_at "mine pure"
    subst hsg
    exact ⟨_, rfl⟩
/-- x without its first k signs -/
def dropS (x : Str) (k : Nat) : Str := ⟨(x.cps.toList.drop k).toArray⟩
def signAt (x : Str) (j : Nat) : Str := ⟨#[x.cps.toList.getD j 0]⟩
theorem dropS_len (x : Str) (k : Nat) : (dropS x k).length = x.length - k := by
  show (List.drop k x.cps.toList).toArray.size = x.cps.size - k
  simp
theorem slice_dropS {x : Str} {i : Int} (h0 : 0 ≤ i) (h1 : i ≤ x.length) : Txt.slice x (some i) none = dropS x i.toNat := by
  rw [slice_from_eq h0 h1 rfl]
  unfold dropS
  congr 2
  apply List.take_of_length_le
  rw [List.length_drop, Array.length_toList]
  have : x.cps.size = x.length := rfl
  omega
theorem dropS_dropS (x : Str) (j k : Nat) : dropS (dropS x j) k = dropS x (j + k) := by
  unfold dropS
  simp [List.drop_drop]
theorem dropS_zero (x : Str) : dropS x 0 = x := by
  unfold dropS
  simp
theorem item_at {x : Str} {j : Int} (h0 : 0 ≤ j) (h1 : j < x.length) : Txt.item x j = signAt x j.toNat := by
  unfold Txt.item signAt Txt.charAt seqIndex?
  have hs : x.length = x.cps.size := rfl
  have h2 : ¬ j < 0 := by omega
  have h3 : j.toNat < x.cps.size := by omega
  have h4 : j < (x.cps.size : Int) := by omega
  simp [h2, h3, hs, h0, h4]
theorem signAt_drop (x : Str) (k j : Nat) : signAt (dropS x k) j = signAt x (k + j) := by
  unfold signAt dropS
  simp [List.getD_eq_getElem?_getD, List.getElem?_drop]
theorem Short.uniq {x y z : Str} (h1 : Short x y) (h2 : Short x z) : y = z := by
  obtain ⟨k, hk0, hk1, hk2, rfl⟩ := h1
  obtain ⟨l, hl0, hl1, hl2, rfl⟩ := h2
  have h3 : ¬ k < l := fun h => hk2 (hl1 k hk0 h)
  have h4 : ¬ l < k := fun h => hl2 (hk1 l hl0 h)
  have h5 : k = l := by omega
  rw [h5]
theorem condS_at {x : Str} {j : Int} (h0 : 0 ≤ j) (h1 : j + 1 < x.length) : condS x j ↔ signAt x j.toNat = extT (signAt x (j.toNat + 1)) := by
  unfold condS
  rw [item_at h0 (by omega), item_at (by omega) h1, show (j + 1).toNat = j.toNat + 1 by omega]
  exact ⟨fun h => h.2, fun h => ⟨h1, h⟩⟩

theorem cond_drop {x sg : Str} {k : Nat} (hk : sg = dropS x k) (h : 1 < (sg.length : Int)) : condS x k ↔ Txt.item sg 0 = extT (Txt.item sg 1) := by
  have hl : sg.length = x.length - k := by rw [hk, dropS_len]
  rw [condS_at (by omega) (by omega), item_at (by omega) (by omega), item_at (by omega) (by omega), hk, signAt_drop, signAt_drop]
  rfl
theorem ext_one {y z : Str} {b : Bool} (h : (y == Str.ofString "1") = true) (h2 : (z != Str.ofString "0") = b) : z = extT y ↔ b = false := by
  rw [extT, if_pos (eq_of_beq h), ← h2]; simp
theorem ext_oth {y z : Str} {b : Bool} (h : (y == Str.ofString "1") = false) (h2 : (z != y) = b) : z = extT y ↔ b = false := by
  rw [extT, if_neg (ne_of_beq_false h), ← h2]; simp
theorem short_stop {x sg : Str} {k : Nat} (hk : sg = dropS x k) (hk1 : k < x.length) (hk2 : ∀ j : Int, 0 ≤ j → j < k → condS x j) (h : ¬ condS x k) : Short x sg ∧ sg.length ≤ x.length :=
  ⟨⟨k, by omega, hk2, h, by rw [slice_dropS (by omega) (by omega), hk]; rfl⟩, by rw [hk, dropS_len]; omega⟩
theorem short_go {x sg : Str} {k : Nat} (hk : sg = dropS x k) (h1 : 1 < (sg.length : Int)) (hk2 : ∀ j : Int, 0 ≤ j → j < k → condS x j) (h : condS x k) :
    (∃ k : Nat, Txt.slice sg (some 1) none = dropS x k ∧ k < x.length ∧ ∀ j : Int, 0 ≤ j → j < k → condS x j) ∧ (Txt.slice sg (some 1) none).length < sg.length := by
  have hl : sg.length = x.length - k := by rw [hk, dropS_len]
  have hs : Txt.slice sg (some 1) none = dropS x (k + 1) := by rw [slice_dropS (by omega) (by omega), hk, dropS_dropS]; rfl
  refine ⟨⟨k + 1, hs, by omega, fun j h2 h3 => ?_⟩, by rw [hs, dropS_len]; omega⟩
  by_cases h4 : j = k
  · exact h4 ▸ h
  · exact hk2 j h2 (by omega)

theorem law_short_spec (w : World) (news : List (Addr × Obj)) (x : Str) (t : Tok) (hx : 1 ≤ x.length) (hx2 : x.length < 1000) :
    Spec w 335 [.str x t] 1 16 news (fun r news' => news' = news ∧ ∃ y t, r = .str y t ∧ Short x y ∧ y.length ≤ x.length) := by
  refine' Spec.of_body (binds := [("signs", .str x t)]) ?ho ?hcd ?hb ?hl (by decide) ?c2 ?c3 ?c4 ?c5 ?_
  (case ho => k_dflt k_is)
  (case hcd => k_dflt k_is)
  (case hb => intro s; exact BindsTo.of_eq rfl)
  (case hl => exact locs rfl)
  (case c2 => exact rfl)
  (case c3 => exact rfl)
  (case c4 => exact rfl)
  (case c5 => decide)
  k_whole
  intro dp0 un0 gd0 cn0 cs0 L0 a0 ccd0 cl0 outer0 base0 g0 L1 h1 p0 loose0 mean0 mg0 mb0 s0 tk0 B0 F0 X0 N0 T0 hdp hun hlt
  (try dsimp only [List.reverse_cons, List.reverse_nil, List.nil_append, List.cons_append] at F0)
  have hOn : HoldOn := ⟨⟩
  (try k_fold)
  k_steps
  refine Hold.of ?_
  refine' ksw_while (σ := Str × Tok) (fun _ => news) (fun c => [(Str.ofString "signs", .str c.1 c.2)]) (fun _ => True) [Str.ofString "front"] (fun c => ∃ k : Nat, c.1 = dropS x k ∧ k < x.length ∧ ∀ j : Int, 0 ≤ j → j < k → condS x j) (fun c => c.1.length) (x, _) (by assumption) (by assumption) trivial ?ps ?pp ?turn
  case ps => exact List.forall_mem_cons.mpr ⟨by with_unfolding_all rfl, List.forall_mem_nil _⟩
  case pp => exact ⟨0, (dropS_zero x).symm, by omega, fun j h1 h2 => absurd h1 (by omega)⟩
  case turn =>
    rintro ⟨sg, tg⟩ u h' tk' _ ⟨k, hk, hk1, hk2⟩ F' N'
    dsimp only [kstB] at F' N' hk hk1
    have hl : sg.length = x.length - k := by rw [hk, dropS_len]
    (try k_fold)
    k_steps
    · walk_at "mine pure"
      have hn := short_stop hk hk1 hk2 (by rw [cond_drop hk (by assumption), ext_one (by assumption) (by assumption)]; decide)
      exact ⟨_, _, rfl, hn.1, hn.2⟩
    · refine Hold.of ?_
      (rename Fr _ _ _ _ => eF)
      (rename News _ _ _ _ => eN)
      (try simp only [List.push_toArray] at eN)
      have hn := short_go hk (by assumption) hk2 (by rw [cond_drop hk (by assumption), ext_one (by assumption) (by assumption)])
      exact ksw_end (σ := Str × Tok) (_, _) eF eN (fun _ hp => hp) trivial (List.forall_mem_cons.mpr ⟨by with_unfolding_all rfl, List.forall_mem_nil _⟩) (by ksw_same) hn.1 hn.2
    · walk_at "mine pure"
      have hn := short_stop hk hk1 hk2 (by rw [cond_drop hk (by assumption), ext_oth (by assumption) (by assumption)]; decide)
      exact ⟨_, _, rfl, hn.1, hn.2⟩
    · refine Hold.of ?_
      (rename Fr _ _ _ _ => eF)
      (rename News _ _ _ _ => eN)
      (try simp only [List.push_toArray] at eN)
      have hn := short_go hk (by assumption) hk2 (by rw [cond_drop hk (by assumption), ext_oth (by assumption) (by assumption)])
      exact ksw_end (σ := Str × Tok) (_, _) eF eN (fun _ hp => hp) trivial (List.forall_mem_cons.mpr ⟨by with_unfolding_all rfl, List.forall_mem_nil _⟩) (by ksw_same) hn.1 hn.2
    · walk_at "mine pure"
      have hn := short_stop hk hk1 hk2 (fun h => by have := h.1; omega)
      exact ⟨_, _, rfl, hn.1, hn.2⟩
theorem pos_of_ne {vs : List Value} {ns : List Int} (hi : IntsAre vs ns) (h : decide (ns = []) = false) : 0 < vs.length := by
  rw [hi.length]
  cases ns with
  | nil => simp at h
  | cons _ _ => exact Nat.succ_pos _
theorem dropLast_le {α : Type} {l : List α} (h : l.length ≤ 100) : l.dropLast.length ≤ 100 := by rw [List.length_dropLast]; omega
theorem word_30 : True := by
  (k_with "call builtin:list.pop" => (k_here; (with_reducible show wpAny _ _ (call (Value.builtin _) [Value.ref _]) _ _ _); k_dflt (refine' kpa_pop ?Fzh ?Nzh ?Uzh ?izh ?lzh ?zzh ?_; (case Fzh => k_asm); (case Nzh => k_asm); (case Uzh => k_upd); (case izh => assumption); (case lzh => exact pos_of_ne (by assumption) (by assumption)); (case zzh => size_fits)); (intro h'zq t'zq F'zq N'zq hI'zq; (try dsimp only [List.nil_append, List.cons_append] at N'zq))))
  trivial
theorem law_get_spec (w : World) (rest : List (Addr × Obj)) (l : Addr) (vs : List Value) (ns : List Int) (ep : Nat) (many : Int) (t : Tok) (hi : IntsAre vs ns) (hl : ns.length ≤ 100) (hr : ∀ p ∈ rest, p.1 ≠ l) (hm : 0 < many) (hm2 : many < 1000) :
    Spec w 314 [.ref l, .int many t] 2 100 ((l, W.listOf vs.toArray ep) :: rest) (fun r news' => ∃ (vs' : List Value) (ns' : List Int) (ep' : Nat) (x : Int) (t' : Tok), news' = (l, W.listOf vs'.toArray ep') :: rest ∧ IntsAre vs' ns' ∧ ns'.length ≤ 100 ∧ r = .int x t' ∧ 0 ≤ x ∧ x < many) := by
  refine' Spec.of_body (binds := [("mine", .ref l), ("many", .int many t)]) ?ho ?hcd ?hb ?hl (by decide) ?c2 ?c3 ?c4 ?c5 ?_
  (case ho => k_dflt k_is)
  (case hcd => k_dflt k_is)
  (case hb => intro s; exact BindsTo.of_eq rfl)
  (case hl => exact locs rfl)
  (case c2 => exact rfl)
  (case c3 => exact rfl)
  (case c4 => exact rfl)
  (case c5 => decide)
  k_whole
  intro dp0 un0 gd0 cn0 cs0 L0 a0 ccd0 cl0 outer0 base0 g0 L1 h1 p0 loose0 mean0 mg0 mb0 s0 tk0 B0 F0 X0 N0 T0 hdp hun hlt
  (try dsimp only [List.reverse_cons, List.reverse_nil, List.nil_append, List.cons_append] at F0)
  have hOn : HoldOn := ⟨⟩
  (try k_fold)
  have hvl := hi.length
  k_steps
  · walk_at "mine tidy"
    unfold Back
    refine ⟨_, _, (l, W.listOf vs.toArray ep) :: rest, _, _, rfl, by k_asm, ?_, vs, ns, ep, 0, _, rfl, hi, hl, rfl, Int.le_refl _, hm⟩
    (rename News _ _ _ _ => eN)
    exact cb_drop eN (fun _ hp => .tail _ hp)
  · walk_at "mine tidy"
    unfold Back
    refine ⟨_, _, (l, W.listOf vs.dropLast.toArray (ep + 1)) :: rest, _, _, rfl, by k_asm, ?_, vs.dropLast, ns.dropLast, ep + 1, _, _, rfl, by assumption, dropLast_le hl, rfl, fmod_lo _ hm, fmod_hi _ hm⟩
    (rename News _ _ _ _ => eN)
    exact cb_drop eN (fun _ hp => .tail _ hp)
/-- a contract over a ledger that holds what the contract's own ledger holds -/
theorem Spec.perm {w : World} {f : Addr} {args : List Value} {d u : Nat} {A B : List (Addr × Obj)} {Ret Ret' : Value → List (Addr × Obj) → Prop} (S : Spec w f args d u A Ret) (h1 : ∀ p ∈ A, p ∈ B)
    (h2 : ∀ r A', Ret r A' → ∃ B', (∀ p ∈ B', p ∈ A') ∧ Ret' r B') : Spec w f args d u B Ret' := by
  intro dp un gd cn cs a ccd cl outer A₀ base h₀ L m p loose mean mg mb s Q E Bl F X N T hck hd' hu hret
  refine S dp un gd cn cs a ccd cl outer A₀ base h₀ L m p loose mean mg mb s Q E Bl F X (fun q hq => N q (h1 q hq)) T hck hd' hu fun r A' h' tk' F' N' hr => ?_
  obtain ⟨B', hb, hr'⟩ := h2 r A' hr
  exact hret r B' h' tk' F' (fun q hq => N' q (hb q hq)) hr'
theorem law_get_any (w : World) (news : List (Addr × Obj)) (g : Obj → List (Addr × Obj)) (l : Addr) (vs : List Value) (ns : List Int) (ep : Nat) (many : Int) (t : Tok) (U : UpdF l (W.listOf vs.toArray ep) news g) (hi : IntsAre vs ns) (hl : ns.length ≤ 100) (hm : 0 < many) (hm2 : many < 1000) :
    Spec w 314 [.ref l, .int many t] 2 100 news (fun r news' => ∃ (vs' : List Value) (ns' : List Int) (ep' : Nat) (x : Int) (t' : Tok), news' = g (W.listOf vs'.toArray ep') ∧ IntsAre vs' ns' ∧ ns'.length ≤ 100 ∧ r = .int x t' ∧ 0 ≤ x ∧ x < many) := by
  obtain ⟨own, rest, rfl, hg, h1, h2⟩ := U.split
  refine Spec.perm (law_get_spec w (own ++ rest) l vs ns ep many t hi hl (List.forall_mem_append.mpr ⟨h1, h2⟩) hm hm2) ?_ ?_
  · intro p hp
    rcases List.mem_cons.mp hp with rfl | hp
    · exact List.mem_append_right _ (.head _)
    · exact (List.mem_append.mp hp).elim (fun h => List.mem_append_left _ h) fun h => List.mem_append_right _ (.tail _ h)
  · rintro r A' ⟨vs', ns', ep', x, t', rfl, hr⟩
    refine ⟨_, ?_, vs', ns', ep', x, t', rfl, hr⟩
    rw [hg]
    intro p hp
    rcases List.mem_append.mp hp with hp | hp
    · exact .tail _ (List.mem_append_left _ hp)
    · rcases List.mem_cons.mp hp with rfl | hp
      · exact .head _
      · exact .tail _ (List.mem_append_right _ hp)
theorem word_31 : True := by
  (k_with "call ref" => (k_here; (with_reducible show wpAny _ _ (call (Value.ref 314) _) _ _ _); k_dflt (refine' Spec.use (law_get_any _ _ _ _ _ _ _ _ _ ?Uzh ?hizh ?hlzh ?hmzh ?hm2zh) ?k1zh ?k2zh ?k3zh ?k4zh ?k5zh ?kKzh ?kdzh ?kuzh ?_; (case k1zh => k_asm); (case k2zh => k_asm); (case k3zh => k_asm); (case k4zh => k_asm); (case k5zh => k_asm); (case kKzh => first | exact rfl | assumption); (case kdzh => ktr_room); (case kuzh => ktr_units); (case Uzh => k_updF); (case hizh => assumption); (case hlzh => assumption); (case hmzh => omega); (case hm2zh => omega)); intro r9zq nw9zq h9zq tk9zq F9zq N9zq hr9zq; obtain ⟨vs9zq, ns9zq, ep9zq, x9zq, t9zq, e9zq, hi9zq, hl9zq, e9bzq, hx9zq, hy9zq⟩ := hr9zq; (have e8zq := e9zq.symm); (clear e9zq); (subst e8zq); (try subst e9bzq); (try dsimp only at N9zq); (try dsimp only); (try k_lt l9zq); (try k_sweep)))
  trivial

section
variable {h₀ : Heap} {L D l : Addr} {oD : Obj} {m₀ m' : Str → Option Value} {x : Str} {stored : List Str} {own own2 r : List (Addr × Obj)} {adr : List Addr} {s₁ : Shared} {h' : Heap} {tk : Nat} {vs : List Value} {ns : List Int} {ep : Nat} {pre : List Int}
theorem mine_end1 {P : List Int → List Value × List Int × Nat → Prop} (F : Fr h₀ L h' m') (N : News h₀ L h' ((D, oD) :: (l, W.listOf vs.toArray ep) :: r)) (hv : IntsAre vs ns) (h2 : ∀ p ∈ own, p ∈ r) (ha : [D, l] = adr)
    (hr : ∀ z, z ≠ x → (∀ p ∈ ([] : List (Str × Value)), z ≠ p.1) → stored.contains z = false → m' z = m₀ z) (hp : P pre (vs, ns, ep)) :
    InvEndN h₀ L (KstS (σ := List Value × List Int × Nat) (fun c => [(D, oD), (l, W.listOf c.1.toArray c.2.2)]) (fun _ => []) (fun c => IntsAre c.1 c.2.1) x stored m₀ P pre) own adr s₁ { s₁ with heap := h', toks := tk } :=
  kst_end (σ := List Value × List Int × Nat) (vs, ns, ep) F N (List.forall_mem_cons.mpr ⟨.head _, List.forall_mem_cons.mpr ⟨.tail _ (.head _), List.forall_mem_nil _⟩⟩) (fun p hp => .tail _ (.tail _ (h2 p hp))) ha hv (fun _ hp => nomatch hp) hr hp
theorem mine_end2 {P : List Int → (List Value × List Int × Nat) × (Int × Tok) → Prop} {y : Str} {z : Int} {tz : Tok} (F : Fr h₀ L h' m') (N : News h₀ L h' ((D, oD) :: (l, W.listOf vs.toArray ep) :: r)) (hv : IntsAre vs ns) (h1 : ∀ p ∈ own, p ∈ r) (h2 : ∀ p ∈ own2, p ∈ r) (ha : D :: l :: own.map (·.1) = adr)
    (hy : m' y = some (.int z tz)) (hr : ∀ z', z' ≠ x → (∀ p ∈ [(y, Value.int z tz)], z' ≠ p.1) → stored.contains z' = false → m' z' = m₀ z') (hp : P pre ((vs, ns, ep), (z, tz))) :
    InvEndN h₀ L (KstS (σ := (List Value × List Int × Nat) × (Int × Tok)) (fun c => [(D, oD), (l, W.listOf c.1.1.toArray c.1.2.2)] ++ own) (fun c => [(y, .int c.2.1 c.2.2)]) (fun c => IntsAre c.1.1 c.1.2.1) x stored m₀ P pre) own2 adr s₁ { s₁ with heap := h', toks := tk } :=
  kst_end (σ := (List Value × List Int × Nat) × (Int × Tok)) ((vs, ns, ep), (z, tz)) F N (List.forall_mem_cons.mpr ⟨.head _, List.forall_mem_cons.mpr ⟨.tail _ (.head _), fun p hp => .tail _ (.tail _ (h1 p hp))⟩⟩) (fun p hp => .tail _ (.tail _ (h2 p hp))) ha hv (List.forall_mem_cons.mpr ⟨hy, List.forall_mem_nil _⟩) hr hp
end
theorem rev_lets {prog : Program} {w : World} {A : Around} {E : Value → Shared → Prop} {s : Shared} {h₀ : Heap} {L D : Addr} {m : Str → Option Value} {news news' : List (Addr × Obj)} {n : Nat} {vs : List Value} {Q : Value → Shared → Prop} (F : Fr h₀ L s.heap m) (N : News h₀ L s.heap news)
    (U : Upd D (W.listOf vs.toArray n) (W.listOf vs.reverse.toArray n) news news') (hz : vs.length ≤ sizeLine)
    (h : ∀ h', Fr h₀ L h' m → News h₀ L h' news' → Q .none { s with heap := h' }) : wpAny (model prog w) A (call (.builtin "list.reverse") [.ref D]) Q E s :=
  kl_reverse F N rfl U hz h
theorem word_32 : True := by
  (k_with "call builtin:list.reverse" => (k_here; (with_reducible show wpAny _ _ (call (Value.builtin _) [Value.ref _]) _ _ _); k_dflt (refine' rev_lets ?Fzh ?Nzh ?Uzh ?zzh ?_; (case Fzh => k_asm); (case Nzh => k_asm); (case Uzh => k_upd); (case zzh => size_fits)); (intro h'zq F'zq N'zq)))
  trivial
theorem name_ints {P : Prop} {vs : List Value} {ns : List Int} (_h : IntsAre vs ns) (k : ∀ vs', vs' = vs → P) : P := k vs rfl
/-- the script in the base -/
def Scr (l : Addr) (vs : List Value) (h : Heap) : Prop := h.IsList l vs.toArray
theorem Scr.keeps (l : Addr) (vs : List Value) : ∀ h h' : Heap, h.StaysIn h' → Scr l vs h → Scr l vs h' := fun _ _ st x => stays_list st x
theorem law_mine_spec (w : World) (l : Addr) (vs : List Value) (ns : List Int) (hi : IntsAre vs ns) (hl : ns.length ≤ 63) :
    SpecB (Scr l vs) w 307 [.ref l] 2 100 [] (fun r news' => ∃ (l' : Addr) (vs' : List Value) (ns' : List Int) (ep' : Nat), r = .ref l' ∧ news' = [(l', W.listOf vs'.toArray ep')] ∧ IntsAre vs' ns' ∧ ns'.length ≤ 100) := by
  refine' SpecB.of_body (Scr.keeps _ _) (binds := [("script", .ref l)]) ?ho ?hcd ?hb ?hl (by decide) ?c2 ?c3 ?c4 ?c5 ?_
  (case ho => k_dflt k_is)
  (case hcd => k_dflt k_is)
  (case hb => intro s; exact BindsTo.of_eq rfl)
  (case hl => exact locs rfl)
  (case c2 => exact rfl)
  (case c3 => exact rfl)
  (case c4 => exact rfl)
  (case c5 => decide)
  k_whole
  intro dp0 un0 gd0 cn0 cs0 L0 a0 ccd0 cl0 outer0 base0 g0 L1 h1 p0 loose0 mean0 mg0 mb0 s0 tk0 B0 F0 X0 hBs N0 T0 hdp hun hlt
  (try dsimp only [List.reverse_cons, List.reverse_nil, List.nil_append, List.cons_append] at F0)
  have hOn : HoldOn := ⟨⟩
  (try k_fold)
  have hvl := hi.length
  have hL : g0.IsList l vs.toArray := hBs
  clear hBs
  k_steps
  refine name2 (by assumption) fun D l' eD el => ?_
  subst eD el
  refine name_ints (ns := List.take 36 ns) (by assumption) fun ws e => ?_
  subst e
  have hws : IntsAre ws (List.take 36 ns) := by assumption
  refine Hold.of ?_
  refine' kst_listL (σ := List Value × List Int × Nat) (fun c => [(D, W.listOf ws.toArray 0), (l', W.listOf c.1.toArray c.2.2)]) (fun _ => []) (fun c => IntsAre c.1 c.2.1) [Str.ofString "rest", Str.ofString "lap"] (fun pre c => c.2.1.length ≤ 12 * pre.length) ([], [], 0) (by rfl) (fun _ => .head _) hws (by assumption) (by assumption) .nil (fun _ hp => nomatch hp) (Nat.zero_le _) ?turn ?done
  case turn =>
    rintro ⟨ms, ks, ep⟩ pre post n t' u h' tk' own hE _ hoff hks hlen F' N'
    dsimp only [kstB] at F' N' hks hlen
    have hpre : pre.length < 36 := by
      have h9 := congrArg List.length hE
      simp only [List.length_append, List.length_cons, List.length_take] at h9
      omega
    (try k_fold)
    k_steps
    · refine Hold.of ?_
      refine' kst_range (σ := (List Value × List Int × Nat) × (Int × Tok)) (n := 12) (fun c => [(D, W.listOf ws.toArray 0), (l', W.listOf c.1.1.toArray c.1.2.2)] ++ own) (fun c => [(Str.ofString "rest", .int c.2.1 c.2.2)]) (fun c => IntsAre c.1.1 c.1.2.1) [] (fun p2 c => c.1.2.1.length ≤ 12 * pre.length + p2.length) ((ms, ks, ep), (_, _)) (by rfl) (by assumption) (by decide) (by decide) (by assumption) (by assumption) hks ?ps hlen ?turn2 ?done2
      case ps => exact List.forall_mem_cons.mpr ⟨by with_unfolding_all rfl, List.forall_mem_nil _⟩
      case turn2 =>
        rintro ⟨⟨ms2, ks2, ep2⟩, ⟨z, tz⟩⟩ p2 k2 t2 u2 h2 tk2 own2 hk2 hlt2 hoff2 hks2 hlen2 F2 N2
        dsimp only [kstB] at F2 N2 hks2 hlen2
        simp only [List.cons_append, List.nil_append, List.map_cons, List.map_nil] at N2 hoff2 hoff N'
        have hv2 := hks2.length
        (try k_fold)
        k_steps
        · refine Hold.of ?_
          (rename Fr _ _ _ _ => eF)
          (rename News _ _ _ _ => eN)
          (try simp only [List.push_toArray] at eN)
          exact mine_end1 (ns := ks2 ++ [z.fmod 233]) eF eN (hks2.append (.cons _ _ .nil)) (fun p hp => List.mem_append_left _ hp) rfl (by kst_same) (by simp only [List.length_append, List.length_cons, List.length_nil]; omega)
        · refine Hold.of ?_
          (rename Fr _ _ _ _ => eF)
          (rename News _ _ _ _ => eN)
          (try simp only [List.push_toArray] at eN)
          exact mine_end2 (ns := ks2 ++ [z.fmod 233]) eF eN (hks2.append (.cons _ _ .nil)) (fun p hp => List.mem_append_left _ hp) (fun p hp => List.mem_append_right _ hp) rfl (by with_unfolding_all rfl) (by kst_same) (by simp only [List.length_append, List.length_cons, List.length_nil]; omega)
      case done2 =>
        rintro ⟨⟨ms2, ks2, ep2⟩, ⟨z, tz⟩⟩ u2 h2 tk2 hks2 hlen2 F2 N2
        dsimp only [kstB] at F2 N2 hks2 hlen2
        (try k_fold)
        k_steps
        refine Hold.of ?_
        (rename Fr _ _ _ _ => eF)
        (rename News _ _ _ _ => eN)
        exact mine_end1 eF eN hks2 (fun p hp => hp) rfl (by kst_same) (by simp only [List.length_append, List.length_cons, List.length_nil, rangeKs_length] at hlen2 ⊢; omega)
    · refine Hold.of ?_
      refine' kst_range (σ := (List Value × List Int × Nat) × (Int × Tok)) (n := 12) (fun c => [(D, W.listOf ws.toArray 0), (l', W.listOf c.1.1.toArray c.1.2.2)] ++ own) (fun c => [(Str.ofString "rest", .int c.2.1 c.2.2)]) (fun c => IntsAre c.1.1 c.1.2.1) [] (fun p2 c => c.1.2.1.length ≤ 12 * pre.length + p2.length) ((ms, ks, ep), (_, _)) (by rfl) (by assumption) (by decide) (by decide) (by assumption) (by assumption) hks ?ps hlen ?turn2 ?done2
      case ps => exact List.forall_mem_cons.mpr ⟨by with_unfolding_all rfl, List.forall_mem_nil _⟩
      case turn2 =>
        rintro ⟨⟨ms2, ks2, ep2⟩, ⟨z, tz⟩⟩ p2 k2 t2 u2 h2 tk2 own2 hk2 hlt2 hoff2 hks2 hlen2 F2 N2
        dsimp only [kstB] at F2 N2 hks2 hlen2
        simp only [List.cons_append, List.nil_append, List.map_cons, List.map_nil] at N2 hoff2 hoff N'
        have hv2 := hks2.length
        (try k_fold)
        k_steps
        · refine Hold.of ?_
          (rename Fr _ _ _ _ => eF)
          (rename News _ _ _ _ => eN)
          (try simp only [List.push_toArray] at eN)
          exact mine_end1 (ns := ks2 ++ [z.fmod 233]) eF eN (hks2.append (.cons _ _ .nil)) (fun p hp => List.mem_append_left _ hp) rfl (by kst_same) (by simp only [List.length_append, List.length_cons, List.length_nil]; omega)
        · refine Hold.of ?_
          (rename Fr _ _ _ _ => eF)
          (rename News _ _ _ _ => eN)
          (try simp only [List.push_toArray] at eN)
          exact mine_end2 (ns := ks2 ++ [z.fmod 233]) eF eN (hks2.append (.cons _ _ .nil)) (fun p hp => List.mem_append_left _ hp) (fun p hp => List.mem_append_right _ hp) rfl (by with_unfolding_all rfl) (by kst_same) (by simp only [List.length_append, List.length_cons, List.length_nil]; omega)
      case done2 =>
        rintro ⟨⟨ms2, ks2, ep2⟩, ⟨z, tz⟩⟩ u2 h2 tk2 hks2 hlen2 F2 N2
        dsimp only [kstB] at F2 N2 hks2 hlen2
        (try k_fold)
        k_steps
        refine Hold.of ?_
        (rename Fr _ _ _ _ => eF)
        (rename News _ _ _ _ => eN)
        exact mine_end1 eF eN hks2 (fun p hp => hp) rfl (by kst_same) (by simp only [List.length_append, List.length_cons, List.length_nil, rangeKs_length] at hlen2 ⊢; omega)
  case done =>
    rintro ⟨ms, ks, ep⟩ u h' tk' hks hlen F' N'
    dsimp only [kstB] at F' N' hks hlen
    have hlen9 : (List.take 80 ks).length ≤ 80 := by rw [List.length_take]; omega
    have hmv := hks.length
    have hpl : (List.take 36 ns).length ≤ 36 := by rw [List.length_take]; omega
    (try k_fold)
    k_steps
    walk_at "mine tidy"
    unfold Back
    (rename News _ _ _ _ => eN)
    refine ⟨_, _, _, _, _, rfl, by k_asm, cb_drop eN (List.forall_mem_cons.mpr ⟨.head _, List.forall_mem_nil _⟩), _, _, _, _, rfl, rfl, IntsAre.reverse (ns := List.take 80 ks) (by assumption), ?_⟩
    rw [List.length_reverse]; omega
/-- entries, none of whose keys is an object -/
structure Dic (es : List DictEntry) (k : Nat) : Prop where
  nor : ∀ e ∈ es, e.refKey = false
  len : es.length ≤ k
theorem Dic.nil : Dic [] 0 := ⟨fun _ h => (nomatch h), Nat.le_refl _⟩
/-- es' is es with name put at v -/
def Dset (es' es : List DictEntry) (name : Str) (v : Value) : Prop := ∀ z, getL z es' = if z = name then some (some v) else getL z es
theorem Dset.hit {es' es : List DictEntry} {name : Str} {v : Value} (h : Dset es' es name v) : getL name es' = some (some v) := (h name).trans (if_pos rfl)
theorem Dset.miss {es' es : List DictEntry} {name z : Str} {v : Value} {r : Option (Option Value)} (h : Dset es' es name v) (hne : z ≠ name) (k : getL z es = r) : getL z es' = r := ((h z).trans (if_neg hne)).trans k
theorem getL_nor {es : List DictEntry} (h : ∀ e ∈ es, e.refKey = false) (z : Str) : getL z es = some ((es.find? (·.key.isStr z)).map (·.val)) := by
  unfold getL
  cases e : es.find? (·.key.isStr z) with
  | some a => rfl
  | none =>
    have : es.any (·.refKey) = false := List.any_eq_false.mpr fun a ha => by rw [h a ha]; decide
    simp [this]
theorem putL_nor {name : Str} {hsh : Int} {tk : Tok} {v : Value} : ∀ {es : List DictEntry}, (∀ e ∈ es, e.refKey = false) → ∀ e ∈ putL name hsh (.str name tk) v es, e.refKey = false
  | [], _ => by intro e he; obtain rfl := List.mem_singleton.mp he; rfl
  | a :: r, h => by
    intro e he
    unfold putL at he
    split at he
    · rcases List.mem_cons.mp he with rfl | he
      · exact h a (.head _)
      · exact h e (.tail _ he)
    · rcases List.mem_cons.mp he with rfl | he
      · exact h _ (.head _)
      · exact putL_nor (fun e he => h e (.tail _ he)) e he
theorem putL_len {name : Str} {hsh : Int} {key v : Value} : ∀ {es : List DictEntry}, (putL name hsh key v es).length ≤ es.length + 1
  | [] => Nat.le_refl _
  | a :: r => by
    unfold putL
    split
    · simp
    · simp only [List.length_cons]; exact Nat.succ_le_succ putL_len
theorem isStr_eq {v : Value} {a b : Str} (ha : v.isStr a = true) : v.isStr b = decide (b = a) := by
  cases v with
  | str s t =>
    have e : s = a := by simpa [Value.isStr] using ha
    subst e
    show (s == b) = decide (b = s)
    by_cases c : b = s
    · subst c; simp
    · rw [decide_eq_false c]; simpa using fun q => c q.symm
  | _ => cases ha
theorem putL_val {name : Str} {hsh : Int} {tk : Tok} {v : Value} (z : Str) : ∀ {es : List DictEntry}, ((putL name hsh (.str name tk) v es).find? (·.key.isStr z)).map (·.val) = if z = name then some v else (es.find? (·.key.isStr z)).map (·.val)
  | [] => by
    show ((List.find? (·.key.isStr z) [(⟨hsh, .str name tk, v⟩ : DictEntry)]).map (·.val)) = _
    have e : (Value.str name tk).isStr z = decide (z = name) := isStr_eq (by simp [Value.isStr])
    rw [List.find?_cons]
    show (match (Value.str name tk).isStr z with | true => _ | false => _ : Option DictEntry).map (·.val) = _
    rw [e]
    by_cases c : z = name
    · simp [c]
    · simp [c]
  | a :: r => by
    have ih := putL_val (name := name) (hsh := hsh) (tk := tk) (v := v) z (es := r)
    unfold putL
    cases hc : a.key.isStr name with
    | true =>
      have e : a.key.isStr z = decide (z = name) := isStr_eq hc
      simp only [if_true, List.find?_cons, e]
      by_cases c : z = name
      · simp [c]
      · simp [c]
    | false =>
      simp only [Bool.false_eq_true, if_false, List.find?_cons]
      cases hz : a.key.isStr z with
      | true =>
        have c : z ≠ name := fun q => by rw [q, hc] at hz; cases hz
        simp [c]
      | false => simpa using ih
theorem UpdF.upd {d : Addr} {o o' : Obj} {news : List (Addr × Obj)} {g : Obj → List (Addr × Obj)} (U : UpdF d o news g) : Upd d o o' news (g o') := by
  induction U with
  | head h => exact .head h
  | tail a _ ih => exact .tail a ih
section
variable {prog : Program} {w : World} {A A₀ : Around} {E : Value → Shared → Prop} {s : Shared} {K : Frag} {x C dx L : Addr} {h₀ : Heap} {m : Str → Option Value} {news : List (Addr × Obj)} {u : Obj → List (Addr × Obj)} {ox od : Obj} {es : List DictEntry} {n k : Nat} {name : Str} {v : Value}
theorem set_dictX {Q : Unit → Shared → Prop} (F : Fr h₀ L s.heap m) (X₀ : K.In h₀) (N : News h₀ L s.heap news) (I : InstAt s.heap x ox C (some (dictOf es n))) (hd : ox.dict = some dx)
    (hs : findIn K (.ref C) "__setattr__" = some (some (.builtin "object.__setattr__"))) (hp : plainOver K C = true) (ht : takerIn K C name = some none) (hh : hasDictIn K C = true) (D : Dic es k)
    (U : UpdF dx (dictOf es n) news u) (hz : k + 1 ≤ 1000)
    (h : ∀ (h' : Heap) (es' : List DictEntry) (n' : Nat), Fr h₀ L h' m → News h₀ L h' (u (dictOf es' n')) → Dic es' (k + 1) → Dset es' es name v → Q () { s with heap := h', toks := s.toks + 2 }) :
    wpAny (model prog w) A (setAttr (.ref x) name v) Q E s :=
  set_dict F X₀ N I hd hs hp ht hh (by rw [getL_nor D.nor]; rfl) rfl (UpdF.upd U) (Nat.le_trans putL_len (Nat.le_trans (Nat.succ_le_succ D.len) hz))
    fun h' F' N' => h h' _ _ F' N' ⟨putL_nor D.nor, Nat.le_trans putL_len (Nat.succ_le_succ D.len)⟩ fun z => by
      rw [getL_nor (putL_nor D.nor), getL_nor D.nor, putL_val]; split <;> rfl
end
theorem neL {a b x : Nat} {P : Prop} (h : @LT.lt Nat _ x b ∧ P) (k : @LT.lt Nat _ x b ∧ P → @LT.lt Nat _ a b) : a ≠ b := Nat.ne_of_lt (k h)
theorem neG {a b x : Nat} {P : Prop} (h : @LT.lt Nat _ x a ∧ P) (k : @LT.lt Nat _ x a ∧ P → @LT.lt Nat _ b a) : a ≠ b := Nat.ne_of_gt (k h)
theorem gen_post {M : Model} {A : Around} {E : Value → Shared → Prop} {s s₁ : Shared} {p : Sem Flow} {h₀ : Heap} {L : Addr} {S : (Str → Option Value) → List (Addr × Obj) → Prop} {own : List (Addr × Obj)} {Q : Flow → Shared → Prop}
    (h : ∀ (S' : (Str → Option Value) → List (Addr × Obj) → Prop) (Q' : Flow → Shared → Prop), S = S' → wpAny M A p (InvPostG h₀ L S' own s₁ Q') E s) : wpAny M A p (InvPostG h₀ L S own s₁ Q) E s := h S Q rfl
theorem word_33 : True := by
  (k_with "setAttr ref" => (k_here; k_dflt (refine' set_dictX ?k1zh ?k2zh ?k3zh ?k4zh ?k5zh ?k6zh ?k7zh ?k8zqzh ?k9zh ?k10zh ?k12zh ?k13zh ?_; (case k1zh => k_asm); (case k2zh => k_asm); (case k3zh => k_asm); (case k4zh => k_inst); (case k5zh => exact rfl); (case k6zh => k_is); (case k7zh => k_is); (case k8zqzh => k_is); (case k9zh => k_is); (case k10zh => first | assumption | exact Dic.nil); (case k12zh => k_updF); (case k13zh => first | exact Nat.le_of_ble_eq_true rfl | omega); k_whole; intro h'zq es'zq n'zq F'zq N'zq dc'zq ds'zq; (try dsimp only at N'zq); (try k_sweep))))
  trivial
local macro_rules | `(tactic| k_get) => `(tactic| first | assumption | exact Dset.hit (by assumption) | (refine' Dset.miss ?kg1 ?kg2 ?_; (case kg1 => assumption); (case kg2 => decide +kernel); k_get) | exact rfl)
theorem word_34 : True := by
  (k_with "mine pick" => (intro hqzq; first | exact hqzq.1 | exact hqzq.2.1 | exact hqzq.2 | exact hqzq.2.2.1 | exact hqzq.2.2 | exact hqzq.2.2.2.1 | exact hqzq.2.2.2 | exact hqzq.2.2.2.2.1 | exact hqzq.2.2.2.2 | exact hqzq.2.2.2.2.2.1 | exact hqzq.2.2.2.2.2 | exact hqzq.2.2.2.2.2.2.1 | exact hqzq.2.2.2.2.2.2 | exact hqzq.2.2.2.2.2.2.2.1 | exact hqzq.2.2.2.2.2.2.2 | exact hqzq.2.2.2.2.2.2.2.2.1 | exact hqzq.2.2.2.2.2.2.2.2 | exact hqzq.2.2.2.2.2.2.2.2.2.1 | exact hqzq.2.2.2.2.2.2.2.2.2 | exact hqzq.2.2.2.2.2.2.2.2.2.2.1 | exact hqzq.2.2.2.2.2.2.2.2.2.2 | exact hqzq.2.2.2.2.2.2.2.2.2.2.2.1 | exact hqzq.2.2.2.2.2.2.2.2.2.2.2 | exact hqzq.2.2.2.2.2.2.2.2.2.2.2.2.1 | exact hqzq.2.2.2.2.2.2.2.2.2.2.2.2 | exact hqzq.2.2.2.2.2.2.2.2.2.2.2.2.2.1 | exact hqzq.2.2.2.2.2.2.2.2.2.2.2.2.2 | exact hqzq.2.2.2.2.2.2.2.2.2.2.2.2.2.2.1 | exact hqzq.2.2.2.2.2.2.2.2.2.2.2.2.2.2 | exact hqzq.2.2.2.2.2.2.2.2.2.2.2.2.2.2.2.1 | exact hqzq.2.2.2.2.2.2.2.2.2.2.2.2.2.2.2 | exact hqzq.2.2.2.2.2.2.2.2.2.2.2.2.2.2.2.2.1 | exact hqzq.2.2.2.2.2.2.2.2.2.2.2.2.2.2.2.2 | exact hqzq.2.2.2.2.2.2.2.2.2.2.2.2.2.2.2.2.2.1 | exact hqzq.2.2.2.2.2.2.2.2.2.2.2.2.2.2.2.2.2))
  trivial
local macro_rules | `(tactic| k_ne) => `(tactic| (refine neN ?_; (try dsimp only); first | exact Nat.ne_of_lt (by assumption) | exact Nat.ne_of_gt (by assumption) | (refine neL (by assumption) ?_; (walk_at "mine pick")) | (refine neG (by assumption) ?_; (walk_at "mine pick")) | omega))
theorem word_35 : True := by
  (k_with "call builtin:len" => (k_here; (with_reducible show wpAny _ _ (call (Value.builtin "len") [Value.ref _]) _ _ _); k_dflt (refine' PyProof.Rows.len_list ?lzh ?fzh ?_; (case lzh => exact News.isList (by k_asm) (by k_mem)); (case fzh => (simp only [List.size_toArray]; omega)); k_whole); (try simp only [List.size_toArray])))
  trivial
theorem word_36 : True := by
  (k_with "setItem ref str" => (k_here; k_dflt (refine' setItem_K PyProof.V.same_str (strKind_is _ _ _ _) ?vzh ?Fzh ?Nzh ?Uzh ?dzh ?fzh ?_ ?zzh; (case Fzh => k_asm); (case Nzh => k_asm); (case Uzh => k_updF); (case dzh => k_asm); (case fzh => k_asm); (case zzh => (rw [PySem.sizeLine_eq]; omega)); (case vzh => k_flat)); intro h'zq o'zq F'zq N'zq hd'zq hf'zq; (try dsimp only at N'zq); (try k_sweep)))
  trivial
theorem word_37 : True := by
  (k_with "newTuple" => (k_here; k_dflt (refine' kup_newTuple ?Fzh ?Nzh ?_ ?zzh; (case Fzh => k_asm); (case Nzh => k_asm); (case zzh => kmk_size)); intro D'zq h'zq F'zq N'zq l1zq; (try k_lt l1zq); (try k_sweep)))
  trivial

section
variable {prog : Program} {w : World} {A : Around} {E : Value → Shared → Prop} {s : Shared} {env : Env} {h₀ : Heap} {x : Str} {body : List Stmt} {Q : Flow → Shared → Prop}
/-- a for loop over a list in the ledger, whatever stands in it: the turn is told its place and its value -/
theorem kd_any {σ : Type} {l : Addr} {vs : List Value} {nn : Nat} {m₀ : Str → Option Value} {news : List (Addr × Obj)} (Led : σ → List (Addr × Obj)) (cst : List (Addr × Obj)) (ps : σ → List (Str × Value)) (Facts : List (Addr × Obj) → σ → Prop) (stored : List Str) (P : Nat → σ → Prop) (adr : List Addr) (c₀ : σ)
    (hh : A.handled = none) (hl : (l, W.listOf vs.toArray nn) ∈ cst) (F : Fr h₀ env.locals s.heap m₀) (N : News h₀ env.locals s.heap news) (hn : ∀ p ∈ Led c₀ ++ (cst ++ []), p ∈ news) (hadr : ∀ c, (Led c ++ cst).map (·.1) = adr) (hf : Facts (cst ++ []) c₀) (hk : ∀ p ∈ ps c₀, m₀ p.1 = some p.2) (hp : P 0 c₀)
    (turn : ∀ (c : σ) tl i v (u : Str → Option Value) h tk own, vs[i]? = some v → KdSep own tl adr → OwnOff (tl ++ own) adr → Facts (cst ++ tl) c → P i c →
      Fr h₀ env.locals h (fun y => if y = x then some v else kstB (fun z => if stored.contains z then u z else m₀ z) (ps c) y) → News h₀ env.locals h (Led c ++ (cst ++ (tl ++ own))) →
      wpAny (model prog w) A (execs body env) (InvPostG h₀ env.locals (KdS Led cst ps Facts x stored m₀ P adr (i + 1)) own { s with heap := h, toks := tk } Q) E { s with heap := h, toks := tk })
    (done : ∀ (c : σ) tl (u : Str → Option Value) h tk, OwnOff tl adr → Facts (cst ++ tl) c → P vs.length c → Fr h₀ env.locals h (fun y => if y = x then u y else kstB (fun z => if stored.contains z then u z else m₀ z) (ps c) y) → News h₀ env.locals h (Led c ++ (cst ++ tl)) → Q .next { s with heap := h, toks := tk }) :
    wpAny (model prog w) A (pyIter (.ref l)) (fun it s₂ => LoopAtV prog w A h₀ env x body Q E it s₂) E s := by
  refine kdl_iter (news := Led c₀ ++ (cst ++ [])) (fun i m nx => KdS Led cst ps Facts x stored m₀ P adr i m nx) hh (List.mem_append.mpr (.inr (List.mem_append.mpr (.inl hl)))) F (fun p hp => N p (hn p hp)) ⟨c₀, [], rfl, fun _ hp => (nomatch hp), hf, hk, fun _ _ _ _ => rfl, hp⟩ ?_ ?_
  · rintro i v m₁ nx h tk own hv hoff _ ⟨c, tl, rfl, ht, hf', h1, h2, hp'⟩ F₁ N₁
    obtain ⟨o1, o2⟩ := kd_split (hadr c) hoff
    rw [List.append_assoc, List.append_assoc] at N₁
    refine wpAny_mono (turn c tl i v m₁ h tk own hv ⟨o1, o2, ht⟩ (kd_off o1 ht) hf' hp' (kst_fr h1 h2 F₁) N₁) (fun f s₂ p => ?_) fun _ _ x => x
    have up : InvEndG h₀ env.locals (KdS Led cst ps Facts x stored m₀ P adr (i + 1)) own { s with heap := h, toks := tk } s₂ →
        InvEndG h₀ env.locals (fun m' nx => (l, W.listOf vs.toArray nn) ∈ nx ∧ KdS Led cst ps Facts x stored m₀ P adr (i + 1) m' nx) own { s with heap := h, toks := tk } s₂ := by
      rintro ⟨h', tk', m', news', nx', e', F', N', hn', ho', ha, hS⟩
      refine ⟨h', tk', m', news', nx', e', F', N', hn', ho', ha, ?_, hS⟩
      obtain ⟨c', tl', rfl, _⟩ := hS
      exact List.mem_append.mpr (.inr (List.mem_append.mpr (.inl hl)))
    cases f with
    | ret v => exact p
    | brk => exact p
    | next => exact up p
    | cont => exact up p
  · rintro m₁ nx h tk ⟨c, tl, rfl, ht, hf', h1, h2, hp'⟩ F₁ N₁
    exact done c tl m₁ h tk ht hf' hp' (kst_frOut h1 h2 F₁) N₁

/-- the like with a target that unpacks -/
theorem kd_anyT {σ : Type} {target : PySem.Expr} {l : Addr} {vs : List Value} {nn : Nat} {m₀ : Str → Option Value} {news : List (Addr × Obj)} (Led : σ → List (Addr × Obj)) (cst : List (Addr × Obj)) (ps : σ → List (Str × Value)) (Facts : List (Addr × Obj) → σ → Prop) (stored : List Str) (P : Nat → σ → Prop) (adr : List Addr) (c₀ : σ) (x : Str)
    (hh : A.handled = none) (hl : (l, W.listOf vs.toArray nn) ∈ cst) (F : Fr h₀ env.locals s.heap m₀) (N : News h₀ env.locals s.heap news) (hn : ∀ p ∈ Led c₀ ++ (cst ++ []), p ∈ news) (hadr : ∀ c, (Led c ++ cst).map (·.1) = adr) (hf : Facts (cst ++ []) c₀) (hk : ∀ p ∈ ps c₀, m₀ p.1 = some p.2) (hp : P 0 c₀)
    (turn : ∀ (c : σ) tl i v (u : Str → Option Value) (s₁ : Shared) own, vs[i]? = some v → KdSep own tl adr → OwnOff (tl ++ own) adr → Facts (cst ++ tl) c → P i c →
      Fr h₀ env.locals s₁.heap (fun y => if y = x then u y else kstB (fun z => if stored.contains z then u z else m₀ z) (ps c) y) → News h₀ env.locals s₁.heap (Led c ++ (cst ++ (tl ++ own))) →
      wpAny (model prog w) A (assign target env v) (fun _ s₃ => wpAny (model prog w) A (execs body env) (fun f s' => match f with | .next => InvEndG h₀ env.locals (KdS Led cst ps Facts x stored m₀ P adr (i + 1)) own s₁ s' | _ => False) E s₃) E s₁)
    (done : ∀ (c : σ) tl (u : Str → Option Value) h tk, OwnOff tl adr → Facts (cst ++ tl) c → P vs.length c → Fr h₀ env.locals h (fun y => if y = x then u y else kstB (fun z => if stored.contains z then u z else m₀ z) (ps c) y) → News h₀ env.locals h (Led c ++ (cst ++ tl)) → Q .next { s with heap := h, toks := tk }) :
    wpAny (model prog w) A (pyIter (.ref l)) (fun it s₂ => LoopAtT prog w A h₀ env target body Q E it s₂) E s := by
  have hl' : ∀ c tl, (l, W.listOf vs.toArray nn) ∈ Led c ++ (cst ++ tl) := fun _ _ => List.mem_append.mpr (.inr (List.mem_append.mpr (.inl hl)))
  have hol : s.heap.get? l = some (W.listOf vs.toArray nn) := (N _ (hn _ (hl' _ _))).1
  have hls : s.heap.IsList l vs.toArray := ⟨_, hol, rfl, nn, rfl⟩
  have hne : l ≠ s.heap.objs.size := Nat.ne_of_lt (Heap.lt_size hol)
  refine wpAny_pyIter_list hls ?_
  have W9 := Walks.list (prog := prog) (w := w) hh s.heap.objs.size l hne vs.toArray
  have hlen : vs.toArray.size = vs.length := by simp
  rw [hlen] at W9
  refine ⟨_, _, _, vs.length, _, _, m₀, Led c₀ ++ (cst ++ []), (fun i m nx => KdS Led cst ps Facts x stored m₀ P adr i m nx), rfl, W9, ?_, ?_, ?_, ⟨⟨_, Heap.get?_push_size _ rfl, rfl, rfl⟩, hls.at fun o e => Heap.get?_push_of_some _ e⟩, F.push _, (fun p hp => ⟨Heap.get?_push_of_some _ (N p (hn p hp)).1, (N p (hn p hp)).2⟩),
    (fun i s' v Q' st hQ' => letGo_listiter st.1 hQ'), ⟨c₀, [], rfl, fun _ hp => (nomatch hp), hf, hk, fun _ _ _ _ => rfl, hp⟩, ?_, ?_⟩
  · intro hm
    rcases List.mem_cons.mp hm with e | hm
    · exact absurd F.ns.lt (e ▸ Nat.lt_irrefl _)
    · exact (N _ (hn _ (hl' _ _))).2.1 ((List.mem_singleton.mp hm).symm)
  · intro b hb
    rw [List.mem_singleton.mp hb]
    exact next_is_new F
  · intro p hp hI
    exact absurd (Heap.lt_size (N p (hn p hp)).1) ((List.mem_singleton.mp hI) ▸ Nat.lt_irrefl _)
  · rintro i v m₁ nx s₁ own hin hP ⟨c, tl, rfl, ht, hf', h1, h2, hp'⟩ hoff hown hget hfp hst F₁ N₁
    have hP' : vs[i]? = some v := by simpa using hP
    have hI0 : h₀.get? s.heap.objs.size = none := next_is_new F
    obtain ⟨⟨oI, hoI, _⟩, _⟩ := id hst
    have hIown : (s.heap.objs.size, oI) ∈ own.filter fun p => decide (p.1 = s.heap.objs.size) := List.mem_filter.mpr ⟨hfp _ (List.mem_cons.mpr (.inl rfl)) hI0 _ hoI, by simp⟩
    have hsep : OwnOff (own.filter fun p => decide (p.1 = s.heap.objs.size)) ((Led c ++ (cst ++ tl)).map (·.1)) := by
      intro p hp b hb e
      obtain ⟨q, hq, rfl⟩ := List.mem_map.mp hb
      have h3 : p.1 = s.heap.objs.size := by simpa using (List.mem_filter.mp hp).2
      exact hoff q hq (List.mem_singleton.mpr (e ▸ h3))
    obtain ⟨o1, o2⟩ := kd_split (hadr c) hsep
    have N₂ : News h₀ env.locals s₁.heap (Led c ++ (cst ++ (tl ++ own.filter fun p => decide (p.1 = s.heap.objs.size)))) := fun p hp => by
      rw [← List.append_assoc, ← List.append_assoc] at hp
      refine N₁ p ((List.mem_append.mp hp).elim (fun h => List.mem_append.mpr (.inr (by rwa [List.append_assoc] at h))) fun h => List.mem_append.mpr (.inl ((List.mem_filter.mp h).1)))
    have hlo : s₁.heap.get? l = some (W.listOf vs.toArray nn) := (N₁ _ (List.mem_append.mpr (.inr (hl' _ _)))).1
    refine wpAny_mono (turn c tl i v m₁ s₁ _ hP' ⟨o1, o2, ht⟩ (kd_off o1 ht) hf' hp' (kst_frOut h1 h2 F₁) N₂) (fun _ s₃ q => wpAny_mono q (fun f s₂ p => ?_) fun _ _ e => e) fun _ _ e => e
    cases f with
    | next =>
      obtain ⟨h', tk, m', news', nx', e, F', N', hn', ho', ha, hS⟩ := p
      refine ⟨rfl, h', tk, m', nx', e, F', fun p hp => ?_, fun p hp hq => ?_, hS⟩
      · rcases List.mem_append.mp hp with h | h
        · by_cases hI : p.1 = s.heap.objs.size
          · exact N' p (ho' p (List.mem_filter.mpr ⟨h, by simpa using hI⟩))
          · have h3 : p.1 = l := by
              rcases List.mem_cons.mp (hown p h) with h4 | h4
              · exact absurd h4 hI
              · exact List.mem_singleton.mp h4
            have h4 : s₁.heap.get? p.1 = some p.2 := hget p h
            rw [h3, hlo] at h4
            have h5 : p = (l, W.listOf vs.toArray nn) := Prod.ext h3 (Option.some.inj h4).symm
            rw [h5]
            obtain ⟨c', tl', rfl, _⟩ := hS
            exact N' _ (hn' _ (hl' _ _))
        · exact N' p (hn' p h)
      · exact ha _ hIown p.1 (List.mem_map.mpr ⟨p, hp, rfl⟩) (List.mem_singleton.mp hq).symm
    | ret v => exact p.elim
    | brk => exact p.elim
    | cont => exact p.elim
  · rintro h' tk m' news' F' N' _ ⟨c, tl, rfl, ht, hf', h1, h2, hp'⟩
    exact done c tl m' h' tk ht hf' hp' (kst_frOut h1 h2 F') N'
end
theorem nameW {P : Prop} {h₀ h : Heap} {L a1 a2 a3 a4 a5 a6 a7 a8 a9 a10 a11 a12 a13 a14 a15 : Addr} {o1 o2 o3 o4 o5 o6 o7 o8 o9 o10 o11 o12 o13 : Obj} {es : List DictEntry} {n ep : Nat} {vs : List Value} (_N : News h₀ L h [(a1, o1), (a2, o2), (a3, o3), (a4, o4), (a5, o5), (a6, o6), (a7, o7), (a8, o8), (a9, o9), (a10, o10), (a11, o11), (a12, o12), (a13, o13), (a14, dictOf es n), (a15, W.listOf vs.toArray ep)])
    (k : ∀ (hl wl bp sl d dd : Addr) (oB : Obj) (es' : List DictEntry) (n' ep' : Nat) (vs' : List Value), hl = a1 → wl = a2 → bp = a3 → sl = a12 → d = a13 → dd = a14 → oB = o3 → es' = es → n' = n → ep' = ep → vs' = vs → P) : P := k a1 a2 a3 a12 a13 a14 o3 es n ep vs rfl rfl rfl rfl rfl rfl rfl rfl rfl rfl rfl
theorem nameH {P : Prop} {h₀ h : Heap} {L tp tq : Addr} {o1 o2 : Obj} {rs : List (Addr × Obj)} (_N : News h₀ L h ((tp, o1) :: (tq, o2) :: rs)) (k : ∀ (tp' tq' : Addr) (p1 p2 : Obj), tp' = tp → tq' = tq → p1 = o1 → p2 = o2 → P) : P := k tp tq o1 o2 rfl rfl rfl rfl
theorem nameT {P : Prop} {h₀ h : Heap} {L x dx : Addr} {es : List DictEntry} {n : Nat} {rs : List (Addr × Obj)} (_N : News h₀ L h ((x, instObj 233 dx) :: (dx, dictOf es n) :: rs))
    (k : ∀ (x' dx' : Addr) (es' : List DictEntry) (n' : Nat), x' = x → dx' = dx → es' = es → n' = n → P) : P := k x dx es n rfl rfl rfl rfl
section
variable {prog : Program} {w : World} {A : Around} {E : Value → Shared → Prop} {s : Shared} {h₀ : Heap} {L : Addr} {news : List (Addr × Obj)} {value slice : PySem.Expr} {l : Addr} {x0 x1 x2 x3 : Str} {t0 t1 t2 t3 : Tok} {n : Nat} {k : Int} {u : Tok} {Q : Value → Shared → Prop}
theorem sub_strs4 (N : News h₀ L s.heap news) (hm : (l, W.listOf #[.str x0 t0, .str x1 t1, .str x2 t2, .str x3 t3] n) ∈ news) (h0 : 0 ≤ k) (h4 : k < 4) (hl : x0.length ≤ 20 ∧ x1.length ≤ 20 ∧ x2.length ≤ 20 ∧ x3.length ≤ 20)
    (h : ∀ x t, (x = x0 ∨ x = x1 ∨ x = x2 ∨ x = x3) → x.length ≤ 20 → Q (.str x t) s)
    (hs : subscripted slice false (.ref l) (.int k u) = operate [.ref l, .int k u] (getItem (.ref l) (.int k u)) := by with_unfolding_all rfl) :
    wpAny (model prog w) A (subscriptTail value slice (.ref l) (.int k u)) Q E s := by
  have hL : s.heap.IsList l #[.str x0 t0, .str x1 t1, .str x2 t2, .str x3 t3] := News.isList N hm
  have e : k = 0 ∨ k = 1 ∨ k = 2 ∨ k = 3 := by omega
  rcases e with e | e | e | e
  · exact tail_any hL.typeIs slot_list_getitem.lookup (wpAny_getItem_list hL h0 (by omega) (by rw [e]; rfl) (h _ _ (.inl rfl) hl.1)) hs
  · exact tail_any hL.typeIs slot_list_getitem.lookup (wpAny_getItem_list hL h0 (by omega) (by rw [e]; rfl) (h _ _ (.inr (.inl rfl)) hl.2.1)) hs
  · exact tail_any hL.typeIs slot_list_getitem.lookup (wpAny_getItem_list hL h0 (by omega) (by rw [e]; rfl) (h _ _ (.inr (.inr (.inl rfl))) hl.2.2.1)) hs
  · exact tail_any hL.typeIs slot_list_getitem.lookup (wpAny_getItem_list hL h0 (by omega) (by rw [e]; rfl) (h _ _ (.inr (.inr (.inr rfl))) hl.2.2.2)) hs
theorem sub_strs3 (N : News h₀ L s.heap news) (hm : (l, W.listOf #[.str x0 t0, .str x1 t1, .str x2 t2] n) ∈ news) (h0 : 0 ≤ k) (h4 : k < 3)
    (h : ∀ x t, (x = x0 ∨ x = x1 ∨ x = x2) → Q (.str x t) s)
    (hs : subscripted slice false (.ref l) (.int k u) = operate [.ref l, .int k u] (getItem (.ref l) (.int k u)) := by with_unfolding_all rfl) :
    wpAny (model prog w) A (subscriptTail value slice (.ref l) (.int k u)) Q E s := by
  have hL : s.heap.IsList l #[.str x0 t0, .str x1 t1, .str x2 t2] := News.isList N hm
  have e : k = 0 ∨ k = 1 ∨ k = 2 := by omega
  rcases e with e | e | e
  · exact tail_any hL.typeIs slot_list_getitem.lookup (wpAny_getItem_list hL h0 (by omega) (by rw [e]; rfl) (h _ _ (.inl rfl))) hs
  · exact tail_any hL.typeIs slot_list_getitem.lookup (wpAny_getItem_list hL h0 (by omega) (by rw [e]; rfl) (h _ _ (.inr (.inl rfl)))) hs
  · exact tail_any hL.typeIs slot_list_getitem.lookup (wpAny_getItem_list hL h0 (by omega) (by rw [e]; rfl) (h _ _ (.inr (.inr rfl)))) hs
end
theorem word_38 : True := by
  (k_with "subscriptTail" => (k_here; (with_reducible show wpAny _ _ (subscriptTail _ _ (Value.ref _) (Value.int _ _)) _ _ _); k_dflt (refine' sub_strs4 ?Nzh ?mzh ?azh ?bzh ?czh ?_; (case Nzh => k_asm); (case mzh => k_mem); (case azh => assumption); (case bzh => assumption); (case czh => decide +kernel)); intro x8zq t8zq hx8zq hy8zq))
  trivial
theorem word_39 : True := by
  (k_with "subscriptTail" => (k_here; (with_reducible show wpAny _ _ (subscriptTail _ _ (Value.ref _) (Value.int _ _)) _ _ _); k_dflt (refine' sub_strs3 ?Nzh ?mzh ?azh ?bzh ?_; (case Nzh => k_asm); (case mzh => k_mem); (case azh => assumption); (case bzh => assumption)); intro x8zq t8zq hx8zq))
  trivial

/-- a signal, as far as anyone asks -/
structure Sg where
  path : Str
  kind : Str
  wd : Int
/-- the ledger bears a signal at v -/
def SigIn (led : List (Addr × Obj)) (v : Value) (i : Int) (g : Sg) : Prop :=
  ∃ (x dx : Addr) (es : List DictEntry) (n : Nat) (t1 t2 t3 t4 : Tok), v = .ref x ∧ (x, instObj 233 dx) ∈ led ∧ (dx, dictOf es n) ∈ led ∧
    getL (Str.ofString "path") es = some (some (.str g.path t1)) ∧ getL (Str.ofString "kind") es = some (some (.str g.kind t2)) ∧ getL (Str.ofString "width") es = some (some (.int g.wd t3)) ∧ getL (Str.ofString "is_net") es = some none
theorem SigIn.mk9 {led : List (Addr × Obj)} {i : Int} {x dx : Addr} {es : List DictEntry} {n : Nat} {t1 t2 t3 : Tok} {p kd : Str} {wd : Int} (h1 : (x, instObj 233 dx) ∈ led) (h2 : (dx, dictOf es n) ∈ led)
    (h3 : getL (Str.ofString "path") es = some (some (.str p t1))) (h4 : getL (Str.ofString "kind") es = some (some (.str kd t2))) (h5 : getL (Str.ofString "width") es = some (some (.int wd t3))) (h6 : getL (Str.ofString "is_net") es = some none) :
    SigIn led (.ref x) i ⟨p, kd, wd⟩ := ⟨x, dx, es, n, t1, t2, t3, t3, rfl, h1, h2, h3, h4, h5, h6⟩
inductive SigAll (led : List (Addr × Obj)) : List Value → List Sg → Prop
  | nil : SigAll led [] []
  | snoc {vs : List Value} {gs : List Sg} {v : Value} {g : Sg} : SigAll led vs gs → SigIn led v gs.length g → SigAll led (vs ++ [v]) (gs ++ [g])
theorem SigIn.mono {led led' : List (Addr × Obj)} (hs : ∀ p ∈ led, p ∈ led') {v : Value} {i : Int} {g : Sg} (h : SigIn led v i g) : SigIn led' v i g := by
  obtain ⟨x, dx, es, n, t1, t2, t3, t4, h1, h2, h3, h4⟩ := h
  exact ⟨x, dx, es, n, t1, t2, t3, t4, h1, hs _ h2, hs _ h3, h4⟩
theorem SigAll.mono {led led' : List (Addr × Obj)} (hs : ∀ p ∈ led, p ∈ led') {vs : List Value} {gs : List Sg} (h : SigAll led vs gs) : SigAll led' vs gs := by
  induction h with
  | nil => exact .nil
  | snoc _ h ih => exact .snoc ih (h.mono hs)
theorem SigAll.length {led : List (Addr × Obj)} {vs : List Value} {gs : List Sg} (h : SigAll led vs gs) : vs.length = gs.length := by
  induction h with
  | nil => rfl
  | snoc _ _ ih => simp [ih]

/-- where a signal stands -/
def scT (j : Nat) : Str := [Str.ofString "m.", Str.ofString "m.u.", Str.ofString "m.u.v.", Str.ofString "m.w."].getD j (Str.ofString "m.")
def lapT (i : Nat) : Str := [Str.ofString "s0", Str.ofString "s1", Str.ofString "s2", Str.ofString "s3"].getD i (Str.ofString "s0")
structure SgOk (i : Nat) (g : Sg) : Prop where
  path : ∃ j, j < 4 ∧ g.path = scT j ++ lapT i
  kind : g.kind = Str.ofString "wire" ∨ g.kind = Str.ofString "reg" ∨ g.kind = Str.ofString "wand"
  lo : 1 ≤ g.wd
  hi : g.wd ≤ 5
inductive SgsOk : List Sg → Prop
  | nil : SgsOk []
  | snoc {gs : List Sg} {g : Sg} : SgsOk gs → SgOk gs.length g → SgsOk (gs ++ [g])
theorem path_ok {x8 : Str} {k : Int} {i : Nat} (h : x8 = Str.ofString "m." ∨ x8 = Str.ofString "m.u." ∨ x8 = Str.ofString "m.u.v." ∨ x8 = Str.ofString "m.w.") (hk : k = (i : Int)) (hi : i < 4) :
    ∃ j, j < 4 ∧ x8 ++ Str.ofString "s" ++ Str.ofString (toString k) = scT j ++ lapT i := by
  subst hk
  have e : i = 0 ∨ i = 1 ∨ i = 2 ∨ i = 3 := by omega
  rcases h with rfl | rfl | rfl | rfl
  · exact ⟨0, by decide, by rcases e with rfl | rfl | rfl | rfl <;> decide +kernel⟩
  · exact ⟨1, by decide, by rcases e with rfl | rfl | rfl | rfl <;> decide +kernel⟩
  · exact ⟨2, by decide, by rcases e with rfl | rfl | rfl | rfl <;> decide +kernel⟩
  · exact ⟨3, by decide, by rcases e with rfl | rfl | rfl | rfl <;> decide +kernel⟩
theorem wvs_ok {wvs svs : List Value} {sg : List Sg} {g : Sg} {t : Tok} (f2 : IntsAre wvs ((List.range sg.length).map fun (i : Nat) => (i : Int))) (g5 : svs.length = sg.length) :
    IntsAre (wvs ++ [.int (svs.length : Int) t]) ((List.range (sg ++ [g]).length).map fun (i : Nat) => (i : Int)) := by
  rw [g5, List.length_append, List.length_singleton, List.range_succ, List.map_append]
  exact f2.append (.cons _ _ .nil)
theorem SgsOk.get {gs : List Sg} (h : SgsOk gs) : ∀ {i : Nat} {g : Sg}, gs[i]? = some g → SgOk i g := by
  induction h with
  | nil => intro i g hg; simp at hg
  | @snoc gs g hs h ih =>
    intro i g' hg
    by_cases hc : i < gs.length
    · rw [List.getElem?_append_left hc] at hg; exact ih hg
    · rw [List.getElem?_append_right (by omega)] at hg
      have e : i - gs.length = 0 := by
        rcases Nat.eq_zero_or_pos (i - gs.length) with e | e
        · exact e
        · rw [List.getElem?_eq_none (by simp; omega)] at hg; cases hg
      rw [e] at hg
      obtain rfl : g = g' := by simpa using hg
      rwa [show i = gs.length by omega]
theorem SgsOk.wd {gs : List Sg} (h : SgsOk gs) {i : Nat} {g : Sg} (hg : gs[i]? = some g) : 1 ≤ g.wd ∧ g.wd ≤ 5 ∧ 0 < (2 : Int) ^ g.wd.toNat ∧ (2 : Int) ^ g.wd.toNat ≤ 32 := by
  have k := h.get hg
  have h1 := k.lo
  have h2 := k.hi
  refine ⟨h1, h2, Int.pow_pos (by decide), ?_⟩
  have e : g.wd.toNat = 1 ∨ g.wd.toNat = 2 ∨ g.wd.toNat = 3 ∨ g.wd.toNat = 4 ∨ g.wd.toNat = 5 := by omega
  rcases e with e | e | e | e | e <;> rw [e] <;> decide
theorem SigAll.get {led : List (Addr × Obj)} {vs : List Value} {gs : List Sg} (h : SigAll led vs gs) : ∀ i, i < gs.length → ∃ v g, vs[i]? = some v ∧ gs[i]? = some g ∧ SigIn led v i g := by
  induction h with
  | nil => exact fun i hi => absurd hi (Nat.not_lt_zero _)
  | @snoc vs gs v g hs h ih =>
    intro i hi
    have e := hs.length
    by_cases hc : i < gs.length
    · obtain ⟨v', g', h1, h2, h3⟩ := ih i hc
      exact ⟨v', g', by rw [List.getElem?_append_left (by omega)]; exact h1, by rw [List.getElem?_append_left hc]; exact h2, h3⟩
    · have hc2 : i = gs.length := by rw [List.length_append, List.length_singleton] at hi; omega
      subst hc2
      exact ⟨v, g, by rw [← e]; exact List.getElem?_concat_length, List.getElem?_concat_length, h⟩
section
variable {prog : Program} {w : World} {A : Around} {E : Value → Shared → Prop} {s : Shared} {h₀ : Heap} {L : Addr} {news led : List (Addr × Obj)} {value slice : PySem.Expr} {l : Addr} {svs : List Value} {sg : List Sg} {n : Nat} {k : Int} {u : Tok} {Q : Value → Shared → Prop}
theorem sub_sig (N : News h₀ L s.heap news) (hm : (l, W.listOf svs.toArray n) ∈ news) (hS : SigAll led svs sg) (h0 : 0 ≤ k) (h1 : k < sg.length) (h9 : sg.length ≤ 100)
    (h : ∀ (g : Sg) (x dx : Addr) (es : List DictEntry) (n : Nat) (t1 t2 t3 : Tok), sg[k.toNat]? = some g → (x, instObj 233 dx) ∈ led → (dx, dictOf es n) ∈ led → getL (Str.ofString "path") es = some (some (.str g.path t1)) → getL (Str.ofString "kind") es = some (some (.str g.kind t2)) →
      getL (Str.ofString "width") es = some (some (.int g.wd t3)) → getL (Str.ofString "is_net") es = some none → Q (.ref x) s)
    (hs : subscripted slice false (.ref l) (.int k u) = operate [.ref l, .int k u] (getItem (.ref l) (.int k u)) := by with_unfolding_all rfl) :
    wpAny (model prog w) A (subscriptTail value slice (.ref l) (.int k u)) Q E s := by
  have hL : s.heap.IsList l svs.toArray := News.isList N hm
  obtain ⟨v, g, e1, e2, x, dx, es, n, t1, t2, t3, t4, rfl, m1, m2, q1, q2, q3, q4⟩ := hS.get k.toNat (by omega)
  exact tail_any hL.typeIs slot_list_getitem.lookup (wpAny_getItem_list hL h0 (by omega) (by simpa using e1) (h g x dx es n t1 t2 t3 e2 m1 m2 q1 q2 q3 q4)) hs
end
theorem word_40 : True := by
  (k_with "subscriptTail" => (k_here; (with_reducible show wpAny _ _ (subscriptTail _ _ (Value.ref _) (Value.int _ _)) _ _ _); k_dflt (refine' sub_sig ?Nzh ?mzh ?szh ?azh ?bzh ?czh ?_; (case Nzh => k_asm); (case mzh => k_mem); (case szh => assumption); (case azh => assumption); (case bzh => omega); (case czh => omega)); intro g9zq x8zq dx8zq es8zq n8zq t8zq t7zq t6zq hg9zq hx8zq hd8zq qp8zq qk8zq qw8zq qn8zq; (try (have hgwzq := SgsOk.wd (by assumption) hg9zq; obtain ⟨hw1zq, hw2zq, hw3zq, hw4zq⟩ := hgwzq))))
  trivial

/-- a change, as far as anyone asks -/
structure Hv where
  now : Int
  key : Int
  wd : Int
  a : Int
  b : Int
def HvIn (led : List (Addr × Obj)) (v : Value) (h : Hv) : Prop :=
  ∃ (tp tq : Addr) (n1 n2 : Nat) (t1 t2 t3 t4 t5 : Tok), v = .ref tp ∧ (tp, tupObj [.int h.now t1, .int h.key t2, .ref tq] n1) ∈ led ∧ (tq, tupObj [.int h.wd t3, .int h.a t4, .int h.b t5] n2) ∈ led
inductive HvAll (led : List (Addr × Obj)) : List Value → List Hv → Prop
  | nil : HvAll led [] []
  | snoc {vs : List Value} {hs : List Hv} {v : Value} {h : Hv} : HvAll led vs hs → HvIn led v h → HvAll led (vs ++ [v]) (hs ++ [h])
theorem HvIn.mono {led led' : List (Addr × Obj)} (hs : ∀ p ∈ led, p ∈ led') {v : Value} {g : Hv} (h : HvIn led v g) : HvIn led' v g := by
  obtain ⟨x, dx, n1, n2, t1, t2, t3, t4, t5, h1, h2, h3⟩ := h
  exact ⟨x, dx, n1, n2, t1, t2, t3, t4, t5, h1, hs _ h2, hs _ h3⟩
theorem HvAll.mono {led led' : List (Addr × Obj)} (hs : ∀ p ∈ led, p ∈ led') {vs : List Value} {gs : List Hv} (h : HvAll led vs gs) : HvAll led' vs gs := by
  induction h with
  | nil => exact .nil
  | snoc _ h ih => exact .snoc ih (h.mono hs)
theorem HvAll.length {led : List (Addr × Obj)} {vs : List Value} {gs : List Hv} (h : HvAll led vs gs) : vs.length = gs.length := by
  induction h with
  | nil => rfl
  | snoc _ _ ih => simp [ih]
theorem HvIn.mk9 {led : List (Addr × Obj)} {tp tq : Addr} {o1 o2 : Obj} {n1 n2 : Nat} {t1 t2 t3 t4 t5 : Tok} {now key wd a b : Int} (h1 : (tp, o1) ∈ led) (h2 : (tq, o2) ∈ led) (e1 : o1 = tupObj [.int now t1, .int key t2, .ref tq] n1) (e2 : o2 = tupObj [.int wd t3, .int a t4, .int b t5] n2) :
    HvIn led (.ref tp) ⟨now, key, wd, a, b⟩ := by
  subst e1 e2
  exact ⟨tp, tq, n1, n2, t1, t2, t3, t4, t5, rfl, h1, h2⟩
structure HvOk (sg : List Sg) (h : Hv) : Prop where
  k0 : 0 ≤ h.key
  k1 : h.key < sg.length
  wd : ∃ g, sg[h.key.toNat]? = some g ∧ h.wd = g.wd
  a0 : 0 ≤ h.a
  a1 : h.a < 32
  b0 : 0 ≤ h.b
  b1 : h.b < 32
inductive HvsOk (sg : List Sg) : List Hv → Int → Prop
  | nil : HvsOk sg [] 0
  | snoc {hs : List Hv} {m : Int} {h : Hv} : HvsOk sg hs m → m ≤ h.now → HvOk sg h → HvsOk sg (hs ++ [h]) h.now

theorem putD_le (a b : PyData) (D : List (PyData × PyData)) : (PyProof.V.putD a b D).length ≤ D.length + 1 := by
  rw [length_putD]; split <;> omega
theorem range_bd9 {h : Heap} {r : Addr} {b : Int} {t u v : Tok} (_hR : IsRange h r 0 b 1 t u v) (h1 : 2 ≤ b) (h2 : b ≤ 9) : ∃ xn : Nat, Builtin.Range.rangeSize 0 b 1 = (xn : Int) ∧ 2 ≤ xn ∧ xn ≤ 9 :=
  ⟨_, rangeSize_nat _ _, by omega, by omega⟩
theorem range_bd {h : Heap} {r : Addr} {b : Int} {t u v : Tok} (_hR : IsRange h r 0 b 1 t u v) (h1 : 1 ≤ b) (h2 : b ≤ 4) : ∃ xn : Nat, Builtin.Range.rangeSize 0 b 1 = (xn : Int) ∧ 1 ≤ xn ∧ xn ≤ 4 :=
  ⟨_, rangeSize_nat _ _, by omega, by omega⟩

/-- the ledger bears the design -/
def WorldIn (led : List (Addr × Obj)) (d : Addr) (sg : List Sg) (H : List Hv) : Prop :=
  ∃ (dd sl wl hl : Addr) (es : List DictEntry) (n n1 n2 n3 : Nat) (svs wvs hvs : List Value),
    (d, instObj 296 dd) ∈ led ∧ (dd, dictOf es n) ∈ led ∧ (sl, W.listOf svs.toArray n1) ∈ led ∧ (wl, W.listOf wvs.toArray n2) ∈ led ∧ (hl, W.listOf hvs.toArray n3) ∈ led ∧
    getL (Str.ofString "signals") es = some (some (.ref sl)) ∧ getL (Str.ofString "watched") es = some (some (.ref wl)) ∧ getL (Str.ofString "history") es = some (some (.ref hl)) ∧ getL (Str.ofString "design") es = some (some (.ref d)) ∧
    SigAll led svs sg ∧ IntsAre wvs ((List.range sg.length).map fun (i : Nat) => (i : Int)) ∧ HvAll led hvs H
structure W2 where
  vs : List Value
  ns : List Int
  ep : Nat
  hvs : List Value
  he : Nat
  now : Int
  nt : Tok
  H : List Hv
structure W1 where
  vs : List Value
  ns : List Int
  ep : Nat
  svs : List Value
  se : Nat
  wvs : List Value
  we : Nat
  oB : Obj
  kvs : List (Str × Value)
  D : List (PyData × PyData)
  sg : List Sg

theorem law_world_spec (w : World) (ml : Addr) (vs : List Value) (ns : List Int) (ep : Nat) (hi : IntsAre vs ns) (hl : ns.length ≤ 100) :
    Spec w 321 [.ref ml] 4 200 [(ml, W.listOf vs.toArray ep)] (fun r news' => ∃ (d : Addr) (sg : List Sg) (H : List Hv) (m : Int), r = .ref d ∧ WorldIn news' d sg H ∧ 1 ≤ sg.length ∧ sg.length ≤ 4 ∧ SgsOk sg ∧ H.length ≤ 9 ∧ HvsOk sg H m ∧ m ≤ 30) := by
  refine' Spec.of_body (binds := [("mine", .ref ml)]) ?ho ?hcd ?hb ?hl (by decide) ?c2 ?c3 ?c4 ?c5 ?_
  (case ho => k_dflt k_is)
  (case hcd => k_dflt k_is)
  (case hb => intro s; exact BindsTo.of_eq rfl)
  (case hl => exact locs rfl)
  (case c2 => exact rfl)
  (case c3 => exact rfl)
  (case c4 => exact rfl)
  (case c5 => decide)
  k_whole
  intro dp0 un0 gd0 cn0 cs0 L0 a0 ccd0 cl0 outer0 base0 g0 L1 h1 p0 loose0 mean0 mg0 mb0 s0 tk0 B0 F0 X0 N0 T0 hdp hun hlt
  (try dsimp only [List.reverse_cons, List.reverse_nil, List.nil_append, List.cons_append] at F0)
  have hOn : HoldOn := ⟨⟩
  (try k_fold)
  k_steps
  refine Hold.of ?_
  refine nameW (by assumption) fun hl9 wl bp sl d dd oB es n9 ep9 vs9 e1 e2 e3 e4 e5 e6 e7 e8 e9 e10 e11 => ?_
  subst e1 e2 e3 e4 e5 e6 e7 e10 e11
  have q1 : getL (Str.ofString "signals") es = some (some (.ref sl)) := by rw [e8]; k_get
  have q2 : getL (Str.ofString "watched") es = some (some (.ref wl)) := by rw [e8]; k_get
  have q3 : getL (Str.ofString "history") es = some (some (.ref hl9)) := by rw [e8]; k_get
  have q4 : getL (Str.ofString "design") es = some (some (.ref d)) := by rw [e8]; k_get
  have q5 : getL (Str.ofString "by_path") es = some (some (.ref bp)) := by rw [e8]; k_get
  have q6 : getL (Str.ofString "add_signal") es = some none := by rw [e8]; k_get
  obtain ⟨ns9, hi9, hl91⟩ : ∃ ns9, IntsAre vs9 ns9 ∧ ns9.length ≤ 100 := ⟨_, by assumption, by assumption⟩
  have od := Hold.of (show @LT.lt Nat _ ml dd ∧ (@LT.lt Nat _ dd d ∧ @LT.lt Nat _ ml d) ∧ (@LT.lt Nat _ d sl ∧ @LT.lt Nat _ dd sl ∧ @LT.lt Nat _ ml sl) ∧ (@LT.lt Nat _ sl bp ∧ @LT.lt Nat _ d bp ∧ @LT.lt Nat _ dd bp ∧ @LT.lt Nat _ ml bp) ∧
    (@LT.lt Nat _ bp wl ∧ @LT.lt Nat _ sl wl ∧ @LT.lt Nat _ d wl ∧ @LT.lt Nat _ dd wl ∧ @LT.lt Nat _ ml wl) ∧ @LT.lt Nat _ wl hl9 ∧ @LT.lt Nat _ bp hl9 ∧ @LT.lt Nat _ sl hl9 ∧ @LT.lt Nat _ d hl9 ∧ @LT.lt Nat _ dd hl9 ∧ @LT.lt Nat _ ml hl9 by omega)
  repeat ((with_reducible (rename And _ _ => hc9)); clear hc9)
  obtain ⟨o1, o2, o3, o4, o5, o6⟩ := od
  (rename IsRange _ _ _ _ _ _ _ _ => hR)
  (rename Fr _ _ _ _ => eF)
  (rename News _ _ _ _ => eN)
  obtain ⟨xn, hxn, hx1, hx4⟩ := range_bd hR (by omega) (by omega)
  refine' kd_range (σ := W1) (n := xn) (fun c => [(ml, W.listOf c.vs.toArray c.ep), (sl, W.listOf c.svs.toArray c.se), (wl, W.listOf c.wvs.toArray c.we), (bp, c.oB), (d, instObj 296 dd), (dd, dictOf es n9), (hl9, W.listOf #[] 0)]) [] (fun _ => [])
    (fun led c => IntsAre c.vs c.ns ∧ IntsAre c.wvs ((List.range c.sg.length).map fun (i : Nat) => (i : Int)) ∧ SigAll led c.svs c.sg ∧ c.oB.IsDictOf (PySem.strKind Challenge.rw_on0115_01.row.prog w) c.kvs ∧ PyProof.V.FlatPairs PyData.str c.kvs c.D)
    [Str.ofString "path", Str.ofString "wide", Str.ofString "made"] (fun pre c => c.ns.length ≤ 100 ∧ c.sg.length = pre.length ∧ SgsOk c.sg ∧ c.D.length ≤ pre.length) [ml, sl, wl, bp, d, dd, hl9] ⟨vs9, ns9, ep9, [], 0, [], 0, oB, [], [], []⟩
    (by rfl) hR (small_one (by omega) (by omega) (by omega) (by omega)) hxn eF eN ?hn (fun _ => rfl) ?hf (fun _ hp => nomatch hp) ?hp ?turn ?done
  case hn => rw [e8, e9]; kcj_all
  case hf => exact ⟨hi9, .nil, .nil, by assumption, .nil⟩
  case hp => exact ⟨hl91, rfl, .nil, Nat.zero_le _⟩
  case turn =>
    clear hR e8 e9 eF eN
    rintro ⟨vs, ns, ep, svs, se, wvs, we, oB, kvs, D, sg⟩ tl pre k t' u h' tk' own hk hlt2 hsep hoff ⟨f1, f2, f3, f4, f5⟩ ⟨g1, g2, g3, g4⟩ F' N'
    dsimp only [kstB] at F' N' f1 f2 f3 f4 f5 g1 g2 g3 g4
    simp only [List.cons_append, List.nil_append] at N' f3
    have g5 := f3.length
    have g6 : wvs.length = sg.length := (f2.length).trans (by rw [List.length_map, List.length_range])
    (try k_fold)
    refine gen_post fun S9 Q9 hS9 => ?_
    k_steps
    refine Hold.of ?_
    (rename Fr _ _ _ _ => eF)
    (rename News _ _ _ _ => eN)
    (try simp only [List.push_toArray] at eN)
    subst hS9
    refine nameT eN fun sx sd es1 n1 r1 r2 r3 r4 => ?_
    subst r1 r2
    clear r3 r4
    refine' kd_end (tl := tl) ⟨_, _, _, svs ++ [.ref sx], _, wvs ++ [_], _, _, _, _, sg ++ [⟨_, _, _⟩]⟩ [(sx, instObj 233 sd), (sd, _)] ?kS ?kF ?kN ?kn ?ko ?ka ?kb ?kw ?kk ?kr ?kf ?kp
    case kS => assumption
    case kF => exact eF
    case kN => exact eN
    case kn => kd_inAll
    case ko => (intro p hp; kst_mem)
    case ka => rfl
    case kb => kd_addB
    case kw =>
      (with_reducible (rename And _ _ => l1c))
      have b1 := l1c.2.2.2.2.2.2.2.2.2
      exact List.forall_mem_cons.mpr ⟨fun p hp => Nat.ne_of_lt (Nat.lt_trans (tb_ltOf b1 p (List.mem_append_right _ hp)) (by assumption)), List.forall_mem_cons.mpr ⟨fun p hp => Nat.ne_of_lt (tb_ltOf b1 p (List.mem_append_right _ hp)), List.forall_mem_nil _⟩⟩
    case kk => exact fun _ hp => nomatch hp
    case kr => kst_same
    case kf =>
      refine ⟨by assumption, ?_, .snoc (f3.mono (led' := [] ++ ([(sx, instObj 233 sd), (sd, _)] ++ tl)) fun p hp => .tail _ (.tail _ hp)) (SigIn.mk9 (kd_new (.head _)) (kd_new (.tail _ (.head _))) (by k_get) (by k_get) (by k_get) (by k_get)), by assumption, by assumption⟩
      refine wvs_ok f2 g5
    case kp =>
      dsimp only
      refine ⟨by assumption, by simp only [List.length_append, g2]; rfl, .snoc g3 ⟨path_ok (by assumption) ?_ (by omega), by assumption, by dsimp only; omega, by dsimp only; omega⟩, ?_⟩
      · rw [hk, g2]; omega
      · refine Nat.le_trans (putD_le _ _ D) ?_
        rw [List.length_append]; exact Nat.succ_le_succ g4
  case done =>
    clear hR e8 e9 eF eN
    rintro ⟨vs, ns, ep, svs, se, wvs, we, oB, kvs, D, sg⟩ tl u h' tk' hoff ⟨f1, f2, f3, f4, f5⟩ ⟨g1, g2, g3, g4⟩ F' N'
    dsimp only [kstB] at F' N' f1 f2 f3 f4 f5 g1 g2 g3 g4
    simp only [List.cons_append, List.nil_append] at N' f3
    have g5 := f3.length
    have g6 : wvs.length = sg.length := (f2.length).trans (by rw [List.length_map, List.length_range])
    (try k_fold)
    k_steps
    refine Hold.of ?_
    (rename IsRange _ _ _ _ _ _ _ _ => hR)
    (rename Fr _ _ _ _ => eF)
    (rename News _ _ _ _ => eN)
    have hpl : (rangeKs 0 xn).length = xn := rangeKs_length _ _
    obtain ⟨xm, hxm, hm1, hm4⟩ := range_bd9 hR (by omega) (by omega)
    refine' kd_range (σ := W2) (n := xm) (fun c => [(ml, W.listOf c.vs.toArray c.ep), (sl, W.listOf svs.toArray se), (wl, W.listOf wvs.toArray we), (bp, oB), (d, instObj 296 dd), (dd, dictOf es n9), (hl9, W.listOf c.hvs.toArray c.he)]) tl (fun c => [(Str.ofString "now", .int c.now c.nt)])
      (fun led c => IntsAre c.vs c.ns ∧ HvAll led c.hvs c.H)
      [Str.ofString "key", Str.ofString "size"] (fun pre c => c.ns.length ≤ 100 ∧ 0 ≤ c.now ∧ c.now ≤ 3 * pre.length ∧ c.H.length = pre.length ∧ HvsOk sg c.H c.now) ([ml, sl, wl, bp, d, dd, hl9] ++ tl.map (·.1)) ⟨_, _, _, [], 0, 0, _, []⟩
      (by rfl) hR (small_one (by omega) (by omega) (by omega) (by omega)) hxm eF eN ?hn (fun _ => rfl) ?hf ?ps ?hp ?turn2 ?done2
    case hn =>
      rw [List.append_nil]
      kd_inAll
    case ps => exact List.forall_mem_cons.mpr ⟨by with_unfolding_all rfl, List.forall_mem_nil _⟩
    case hf => exact ⟨by assumption, .nil⟩
    case hp => exact ⟨by assumption, Int.le_refl _, Int.le_refl _, rfl, .nil⟩
    case turn2 =>
      clear hR eF eN
      rintro ⟨vs, ns, ep, hvs, he, now, nt, H⟩ tl2 pre k t' u h' tk' own hk hlt2 hsep hoff2 ⟨v1, v2⟩ ⟨b1, b2, b3, b4, b5⟩ F' N'
      dsimp only [kstB] at F' N' v1 v2 b1 b2 b3 b4 b5
      simp only [List.cons_append, List.nil_append] at N' 
      have b6 := v2.length
      (try k_fold)
      refine gen_post fun S9 Q9 hS9 => ?_
      k_steps
      refine Hold.of ?_
      subst hS9
      (rename Fr _ _ _ _ => eF)
      (rename News _ _ _ _ => eN)
      (try simp only [List.push_toArray] at eN)
      refine nameH eN fun tp tq u1 u2 r1 r2 r3 r4 => ?_
      subst r1 r2 r3 r4
      refine' kd_end (tl := tl2) ⟨_, _, _, hvs ++ [.ref tp], _, _, _, H ++ [⟨_, _, _, _, _⟩]⟩ [(tp, _), (tq, _)] ?kS ?kF ?kN ?kn ?ko ?ka ?kb ?kw ?kk ?kr ?kf ?kp
      case kS => assumption
      case kF => exact eF
      case kN => exact eN
      case kn => kd_inAll
      case ko => (intro p hp; kst_mem)
      case ka => rfl
      case kb => kd_addB
      case kw => kd_addW
      case kk => exact List.forall_mem_cons.mpr ⟨by with_unfolding_all rfl, List.forall_mem_nil _⟩
      case kr => kst_same
      case kf => exact ⟨by assumption, .snoc (v2.mono (led' := tl ++ ([(tp, _), (tq, _)] ++ tl2)) fun p hp => kd_sub p hp) (HvIn.mk9 (kd_new (.head _)) (kd_new (.tail _ (.head _))) (by with_unfolding_all rfl) (by with_unfolding_all rfl))⟩
      case kp =>
        dsimp only
        refine ⟨by assumption, by omega, ?_, by simp only [List.length_append, b4]; rfl, .snoc b5 ?_ ⟨?_, ?_, ⟨_, by assumption, rfl⟩, ?_, ?_, ?_, ?_⟩⟩
        all_goals (try dsimp only)
        all_goals (try simp only [List.length_append, List.length_singleton])
        all_goals omega
    case done2 =>
      clear hR eF eN
      rintro ⟨vs, ns, ep, hvs, he, now, nt, H⟩ tl2 u h' tk' hoff2 ⟨v1, v2⟩ ⟨b1, b2, b3, b4, b5⟩ F' N'
      dsimp only [kstB] at F' N' v1 v2 b1 b2 b3 b4 b5
      simp only [List.cons_append, List.nil_append] at N'
      have b6 : (rangeKs 0 xm).length = xm := rangeKs_length _ _
      (try k_fold)
      k_steps
      walk_at "mine tidy"
      unfold Back
      (rename News _ _ _ _ => eN)
      have m1 : ∀ p ∈ tl, p ∈ (ml, W.listOf vs.toArray ep) :: (sl, W.listOf svs.toArray se) :: (wl, W.listOf wvs.toArray we) :: (bp, oB) :: (d, instObj 296 dd) :: (dd, dictOf es n9) :: (hl9, W.listOf hvs.toArray he) :: (tl ++ tl2) := fun p hp =>
        .tail _ (.tail _ (.tail _ (.tail _ (.tail _ (.tail _ (.tail _ (List.mem_append_left _ hp)))))))
      have m2 : ∀ p ∈ tl ++ tl2, p ∈ (ml, W.listOf vs.toArray ep) :: (sl, W.listOf svs.toArray se) :: (wl, W.listOf wvs.toArray we) :: (bp, oB) :: (d, instObj 296 dd) :: (dd, dictOf es n9) :: (hl9, W.listOf hvs.toArray he) :: (tl ++ tl2) := fun p hp =>
        .tail _ (.tail _ (.tail _ (.tail _ (.tail _ (.tail _ (.tail _ hp))))))
      refine ⟨_, _, _, _, _, rfl, by k_asm, eN, d, sg, H, now, rfl, ⟨dd, sl, wl, hl9, es, n9, se, we, he, svs, wvs, hvs, ?_, ?_, ?_, ?_, ?_, q1, q2, q3, q4, f3.mono m1, f2, v2.mono m2⟩, ?_, ?_, g3, ?_, b5, ?_⟩
      · exact .tail _ (.tail _ (.tail _ (.tail _ (.head _))))
      · exact .tail _ (.tail _ (.tail _ (.tail _ (.tail _ (.head _)))))
      · exact .tail _ (.head _)
      · exact .tail _ (.tail _ (.head _))
      · exact .tail _ (.tail _ (.tail _ (.tail _ (.tail _ (.tail _ (.head _))))))
      all_goals omega

theorem is_net_spec (w : World) (news : List (Addr × Obj)) (x dx : Addr) (es : List DictEntry) (n : Nat) (kd : Str) (t : Tok) (hx : (x, instObj 233 dx) ∈ news) (hd : (dx, dictOf es n) ∈ news) (hk : getL (Str.ofString "kind") es = some (some (.str kd t)))
    (hs : kd = Str.ofString "wire" ∨ kd = Str.ofString "reg" ∨ kd = Str.ofString "wand") :
    Spec w 202 [.ref x] 3 60 news (fun r news' => news' = news ∧ r = .bool (!(kd == Str.ofString "reg"))) := by
  refine' Spec.of_body (binds := [("self", .ref x)]) ?ho ?hcd ?hb ?hl (by decide) ?c2 ?c3 ?c4 ?c5 ?_
  (case ho => k_dflt k_is)
  (case hcd => k_dflt k_is)
  (case hb => intro s; exact BindsTo.of_eq rfl)
  (case hl => exact locs rfl)
  (case c2 => exact rfl)
  (case c3 => exact rfl)
  (case c4 => exact rfl)
  (case c5 => decide)
  k_whole
  intro dp0 un0 gd0 cn0 cs0 L0 a0 ccd0 cl0 outer0 base0 g0 L1 h1 p0 loose0 mean0 mg0 mb0 s0 tk0 B0 F0 X0 N0 T0 hdp hun hlt
  (try dsimp only [List.reverse_cons, List.reverse_nil, List.nil_append, List.cons_append] at F0)
  have hOn : HoldOn := ⟨⟩
  (try k_fold)
  k_steps
  walk_at "mine pure"
  rcases hs with rfl | rfl | rfl
  · exact congrArg Value.bool (by decide +kernel)
  · exact congrArg Value.bool (by decide +kernel)
  · exact congrArg Value.bool (by decide +kernel)
theorem word_41 : True := by
  (k_with "call ref" => (k_here; (with_reducible show wpAny _ _ (call (Value.ref 202) _) _ _ _); k_dflt (refine' Spec.use (is_net_spec _ _ _ _ _ _ _ _ ?hxzh ?hdzh ?hkzh ?hszh) ?k1zh ?k2zh ?k3zh ?k4zh ?k5zh ?kKzh ?kdzh ?kuzh ?_; (case k1zh => k_asm); (case k2zh => k_asm); (case k3zh => k_asm); (case k4zh => k_asm); (case k5zh => k_asm); (case kKzh => first | exact rfl | assumption); (case kdzh => ktr_room); (case kuzh => ktr_units); (case hxzh => k_mem); (case hdzh => k_mem); (case hkzh => k_get); (case hszh => assumption)); intro r9zq nw9zq h9zq tk9zq F9zq N9zq hr9zq; obtain ⟨e9zq, e9bzq⟩ := hr9zq; (have e8zq := e9zq.symm); (clear e9zq); (subst e8zq); (try subst e9bzq); (try dsimp only at N9zq); (try dsimp only); (try k_lt l9zq); (try k_sweep)))
  trivial

def wordOk (x : Str) : Bool := !(x == Str.ofString "") && !(x == Str.ofString "$end") && x.cps.toList.all fun n => (Builtin.Str.occurrences LAY ⟨#[n]⟩ 0 LAY.length 1).isEmpty
theorem wordOk.one {x : Str} (h : wordOk x = true) : (x == Str.ofString "") = false ∧ (x == Str.ofString "$end") = false ∧ ∀ n ∈ x.cps.toList, (Builtin.Str.occurrences LAY ⟨#[n]⟩ 0 LAY.length 1).isEmpty = true := by
  unfold wordOk at h
  rw [Bool.and_eq_true, Bool.and_eq_true, Bool.not_eq_true', Bool.not_eq_true', List.all_eq_true] at h
  exact ⟨h.1.1, h.1.2, h.2⟩
/-- a path's parts -/
structure Parts (x : Str) (ws : List Str) (la : Str) : Prop where
  eq : Txt.split x (Str.ofString ".") = ws ++ [la]
  ok : (ws ++ [la]).all (fun p => wordOk p && decide (p.length ≤ 4)) = true
  n1 : 1 ≤ ws.length
  n3 : ws.length ≤ 3
  len : x.length ≤ 20
def scP (j : Nat) : List Str := [[Str.ofString "m"], [Str.ofString "m", Str.ofString "u"], [Str.ofString "m", Str.ofString "u", Str.ofString "v"], [Str.ofString "m", Str.ofString "w"]].getD j [Str.ofString "m"]
theorem parts_of {i : Nat} {g : Sg} (h : SgOk i g) (hi : i < 4) : ∃ ws la, Parts g.path ws la := by
  obtain ⟨j, hj, e⟩ := h.path
  rw [e]
  clear e
  refine ⟨scP j, lapT i, ?_⟩
  have hi' : i = 0 ∨ i = 1 ∨ i = 2 ∨ i = 3 := by omega
  have hj' : j = 0 ∨ j = 1 ∨ j = 2 ∨ j = 3 := by omega
  rcases hj' with rfl | rfl | rfl | rfl <;> rcases hi' with rfl | rfl | rfl | rfl <;> exact ⟨by decide +kernel, by decide +kernel, by decide +kernel, by decide +kernel, by decide +kernel⟩
theorem strs_at {vs : List Value} {xs : List Str} (h : StrsAre vs xs) : ∀ {i : Nat} {v : Value}, vs[i]? = some v → ∃ p t, v = .str p t ∧ xs[i]? = some p ∧ p ∈ xs := by
  induction h with
  | nil => intro i v e; simp at e
  | cons n t _ ih =>
    intro i v e
    cases i with
    | zero => exact ⟨n, t, by simpa using e.symm, rfl, .head _⟩
    | succ i =>
      obtain ⟨p, t', h1, h2, h3⟩ := ih (by simpa using e)
      exact ⟨p, t', h1, by simpa using h2, .tail _ h3⟩
section
variable {prog : Program} {w : World} {A : Around} {E : Value → Shared → Prop} {s : Shared} {h₀ : Heap} {L : Addr} {m : Str → Option Value} {news : List (Addr × Obj)} {x la : Str} {ws : List Str} {t u : Tok} {Q : Value → Shared → Prop}
theorem split_parts (F : Fr h₀ L s.heap m) (N : News h₀ L s.heap news) (hP : Parts x ws la)
    (h : ∀ (D : Addr) (vs : List Value) (h' : Heap) (k : Nat), StrsAre vs (ws ++ [la]) → Fr h₀ L h' m → News h₀ L h' ((D, W.listOf vs.toArray 0) :: news) → (∀ p ∈ news, p.1 < D) → Q (.ref D) { s with heap := h', toks := k }) :
    wpAny (model prog w) A (call (.builtin "str.split") [.str x t, .str (Str.ofString ".") u]) Q E s :=
  W.KSpl.split1 F N (by decide +kernel) (fun D l h' k e a F' N' o => h D _ h' k (by rw [e, hP.eq] at a; exact a) F' N' o) (by have := hP.len; rw [sizeLine_eq]; omega)
end
theorem word_42 : True := by
  (k_with "call builtin:str.split" => (k_here; (refine' split_parts ?Fzh ?Nzh ?Pzh ?_; (case Fzh => k_asm); (case Nzh => k_asm); (case Pzh => assumption)); intro D'zq vs'zq h'zq k'zq a'zq F'zq N'zq l1zq; (try k_lt l1zq)))
  trivial

theorem nameD {P : Prop} {h₀ h : Heap} {L D : Addr} {vs : List Value} {n : Nat} {rs : List (Addr × Obj)} (_N : News h₀ L h ((D, W.listOf vs.toArray n) :: rs)) (k : ∀ (D' : Addr) (vs' : List Value), D' = D → vs' = vs → P) : P := k D vs rfl rfl
theorem declare_spec (w : World) (rest : List (Addr × Obj)) (wx dx vl wm : Addr) (es : List DictEntry) (n e : Nat) (vvs : List Value) (oW : Obj) (kvs : List (Str × Value)) (DD : List (PyData × PyData)) (path kd la : Str) (ws : List Str) (wd : Int) (t1 t2 t3 : Tok)
    (ho : @LT.lt Nat _ dx wx ∧ @LT.lt Nat _ dx vl ∧ @LT.lt Nat _ wx vl ∧ @LT.lt Nat _ dx wm ∧ @LT.lt Nat _ wx wm ∧ @LT.lt Nat _ vl wm) (hr1 : ∀ p ∈ rest, p.1 ≠ vl) (hr2 : ∀ p ∈ rest, p.1 ≠ wm)
    (hP : Parts path ws la) (hkd : kd = Str.ofString "wire" ∨ kd = Str.ofString "reg") (hw : 1 ≤ wd ∧ wd ≤ 5) (hv : vvs.length < 4) (q1 : getL (Str.ofString "variables") es = some (some (.ref vl))) (q2 : getL (Str.ofString "widths") es = some (some (.ref wm)))
    (hW : oW.IsDictOf (PySem.strKind Challenge.rw_on0115_01.row.prog w) kvs) (hF : PyProof.V.FlatPairs PyData.str kvs DD) (hD : DD.length ≤ 4) :
    Spec w 131 [.ref wx, .str path t1, .int wd t2, .str kd t3] 4 100 ((wx, instObj 148 dx) :: (dx, dictOf es n) :: (vl, W.listOf vvs.toArray e) :: (wm, oW) :: rest) (fun r news' => ∃ (tp : Addr) (oW' : Obj) (t : Tok), r = .str (idT vvs.length) t ∧
      news' = (tp, tupObj [.str path t1, .int wd t2, .str kd t3, .str (idT vvs.length) t] 0) :: (wx, instObj 148 dx) :: (dx, dictOf es n) :: (vl, W.listOf (vvs ++ [Value.ref tp]).toArray (e + 1)) :: (wm, oW') :: rest ∧
      oW'.IsDictOf (PySem.strKind Challenge.rw_on0115_01.row.prog w) (stored kvs (idT vvs.length) (Value.int wd t2)) ∧ PyProof.V.FlatPairs PyData.str (stored kvs (idT vvs.length) (Value.int wd t2)) (PyProof.V.putD (PyData.str (idT vvs.length)) (PyData.int wd) DD) ∧
      (@LT.lt Nat _ wx tp ∧ @LT.lt Nat _ dx tp ∧ @LT.lt Nat _ vl tp ∧ @LT.lt Nat _ wm tp ∧ AllLt tp rest)) := by
  refine' Spec.of_body (binds := [("self", .ref wx), ("path", .str path t1), ("width", .int wd t2), ("kind", .str kd t3)]) ?ho ?hcd ?hb ?hl (by decide) ?c2 ?c3 ?c4 ?c5 ?_
  (case ho => k_dflt k_is)
  (case hcd => k_dflt k_is)
  (case hb => intro s; exact BindsTo.of_eq rfl)
  (case hl => exact locs rfl)
  (case c2 => exact rfl)
  (case c3 => exact rfl)
  (case c4 => exact rfl)
  (case c5 => decide)
  k_whole
  intro dp0 un0 gd0 cn0 cs0 L0 a0 ccd0 cl0 outer0 base0 g0 L1 h1 p0 loose0 mean0 mg0 mb0 s0 tk0 B0 F0 X0 N0 T0 hdp hun hlt
  (try dsimp only [List.reverse_cons, List.reverse_nil, List.nil_append, List.cons_append] at F0)
  have hOn : HoldOn := ⟨⟩
  (try k_fold)
  have hk1 : (kd == Str.ofString "") = false ∧ (kd == Str.ofString "$end") = false ∧ ∀ n ∈ kd.cps.toList, (Builtin.Str.occurrences LAY ⟨#[n]⟩ 0 LAY.length 1).isEmpty = true := by
    refine wordOk.one ?_
    rcases hkd with rfl | rfl <;> decide +kernel
  obtain ⟨hk1, hk2, hk3⟩ := hk1
  have hv0 : 0 ≤ (vvs.length : Int) ∧ (vvs.length : Int) < 4 := by omega
  k_steps
  refine Hold.of ?_
  (rename News _ _ _ _ => eN)
  (rename Fr _ _ _ _ => eF)
  refine nameD eN fun D' vs' r1 r2 => ?_
  subst r1 r2
  have hst : StrsAre vs' (ws ++ [la]) := by assumption
  refine' kd_any (σ := Unit) (fun _ => []) ((D', W.listOf vs'.toArray 0) :: (wx, instObj 148 dx) :: (dx, dictOf es n) :: (vl, W.listOf vvs.toArray e) :: (wm, oW) :: rest) (fun _ => []) (fun _ _ => True) [] (fun _ _ => True) (D' :: wx :: dx :: vl :: wm :: rest.map (·.1)) ()
    (by rfl) (.head _) eF eN ?hn (fun _ => rfl) trivial (fun _ hp => nomatch hp) trivial ?turn ?done
  case hn => intro p hp; rwa [List.nil_append, List.append_nil] at hp
  case turn =>
    clear eF eN
    rintro c tl i v u h' tk' own hv' hsep hoff _ _ F' N'
    obtain ⟨p, tp, rfl, hp1, hp2⟩ := strs_at hst hv'
    obtain ⟨hc1, hc2, hc3⟩ := wordOk.one (Bool.and_eq_true_iff.mp (List.all_eq_true.mp hP.ok p hp2)).1
    dsimp only [kstB] at F' N'
    simp only [List.cons_append, List.nil_append] at N'
    (try k_fold)
    refine gen_post fun S9 Q9 hS9 => ?_
    k_steps
    refine Hold.of ?_
    (rename Fr _ _ _ _ => eF)
    (rename News _ _ _ _ => eN)
    (try simp only [List.push_toArray] at eN)
    subst hS9
    refine' kd_end (tl := tl) () [] ?kS ?kF ?kN ?kn ?ko ?ka ?kb ?kw ?kk ?kr ?kf ?kp
    case kS => assumption
    case kF => exact eF
    case kN => exact eN
    case kn => kd_inAll
    case ko => (intro p hp; kst_mem)
    case ka => rfl
    case kb => exact List.forall_mem_nil _
    case kw => exact List.forall_mem_nil _
    case kk => exact fun _ hp => nomatch hp
    case kr => kst_same
    case kf => trivial
    case kp => trivial
  case done =>
    clear eF eN
    rintro c tl u h' tk' hoff _ _ F' N'
    dsimp only [kstB] at F' N'
    have N9 : News g0 L1 h' ((wx, instObj 148 dx) :: (dx, dictOf es n) :: (vl, W.listOf vvs.toArray e) :: (wm, oW) :: rest) := fun p hp => N' p (List.mem_append_right _ (List.mem_append_left _ (.tail _ hp)))
    clear N'
    (try k_fold)
    k_steps
    walk_at "mine tidy"
    unfold Back
    (rename News _ _ _ _ => eN)
    simp only [List.push_toArray] at eN
    refine ⟨_, _, _, _, _, rfl, by k_asm, eN, _, _, _, rfl, rfl, by assumption, by assumption, by assumption⟩
theorem notin_have {prog : Program} {w : World} {A : Around} {E : Value → Shared → Prop} {s : Shared} {d : Addr} {D : List (PyData × PyData)} {x : Str} {t : Tok} {k : Int} {Q : Value → Shared → Prop}
    (T : StrTab prog w s.heap d D) (hl : PySem.Spec.lookup (.str x) D = some (.int k)) (h : Q (.bool false) { s with toks := s.toks + 1 }) : wpAny (model prog w) A (compareOp .NotIn (.str x t) (.ref d)) Q E s :=
  notin_strTab T (by rw [hl]; exact h)
theorem word_43 : True := by
  (k_with "compareOp NotIn str ref" => (k_here; k_dflt (refine' notin_have ?Tzh ?lzh ?_; (case Tzh => exact TabAt.ofNews (by k_asm) (by k_mem) (by k_asm) (by k_asm) (by k_asm)); (case lzh => assumption); k_whole)))
  trivial
theorem change_spec (w : World) (rest : List (Addr × Obj)) (wx dx cl wm v : Addr) (es : List DictEntry) (n e k nv : Nat) (cvs : List Value) (oW : Obj) (kvs : List (Str × Value)) (DD : List (PyData × PyData)) (nm : Str) (wd a b time now : Int) (t1 t2 t3 t4 t5 t6 : Tok)
    (ho : @LT.lt Nat _ dx wx ∧ @LT.lt Nat _ dx cl ∧ @LT.lt Nat _ wx cl) (hr1 : ∀ p ∈ rest, p.1 ≠ cl) (hr2 : ∀ p ∈ rest, p.1 ≠ dx)
    (hv : (v, tupObj [.int wd t3, .int a t4, .int b t5] nv) ∈ rest) (hwm : (wm, oW) ∈ rest) (hc : cvs.length ≤ 100) (hD : Dic es k) (hk : k ≤ 500)
    (q1 : getL (Str.ofString "changes") es = some (some (.ref cl))) (q2 : getL (Str.ofString "widths") es = some (some (.ref wm))) (q3 : getL (Str.ofString "now") es = some (some (.int now t6))) (ht : 0 ≤ time ∧ now ≤ time ∧ time ≤ 100 ∧ -1 ≤ now)
    (hW : oW.IsDictOf (PySem.strKind Challenge.rw_on0115_01.row.prog w) kvs) (hF : PyProof.V.FlatPairs PyData.str kvs DD) (hlo : (wm == sysModules) = false) (hl : PySem.Spec.lookup (PyData.str nm) DD = some (PyData.int wd)) :
    Spec w 138 [.ref wx, .int time t1, .str nm t2, .ref v] 3 60 ((wx, instObj 148 dx) :: (dx, dictOf es n) :: (cl, W.listOf cvs.toArray e) :: rest) (fun r news' => ∃ (tp : Addr) (es' : List DictEntry) (n' : Nat), r = .none ∧
      news' = (tp, tupObj [.int time t1, .str nm t2, .ref v] 0) :: (wx, instObj 148 dx) :: (dx, dictOf es' n') :: (cl, W.listOf (cvs ++ [Value.ref tp]).toArray (e + 1)) :: rest ∧ Dic es' (k + 1) ∧ Dset es' es (Str.ofString "now") (.int time t1) ∧ (@LT.lt Nat _ wx tp ∧ @LT.lt Nat _ dx tp ∧ @LT.lt Nat _ cl tp ∧ AllLt tp rest)) := by
  refine' Spec.of_body (binds := [("self", .ref wx), ("time", .int time t1), ("name", .str nm t2), ("value", .ref v)]) ?ho ?hcd ?hb ?hl (by decide) ?c2 ?c3 ?c4 ?c5 ?_
  (case ho => k_dflt k_is)
  (case hcd => k_dflt k_is)
  (case hb => intro s; exact BindsTo.of_eq rfl)
  (case hl => exact locs rfl)
  (case c2 => exact rfl)
  (case c3 => exact rfl)
  (case c4 => exact rfl)
  (case c5 => decide)
  k_whole
  intro dp0 un0 gd0 cn0 cs0 L0 a0 ccd0 cl0 outer0 base0 g0 L1 h1 p0 loose0 mean0 mg0 mb0 s0 tk0 B0 F0 X0 N0 T0 hdp hun hlt
  (try dsimp only [List.reverse_cons, List.reverse_nil, List.nil_append, List.cons_append] at F0)
  have hOn : HoldOn := ⟨⟩
  (try k_fold)
  k_steps
  all_goals first | contradiction | skip
  walk_at "mine tidy"
  unfold Back
  (rename News _ _ _ _ => eN)
  simp only [List.push_toArray] at eN
  exact ⟨_, _, _, _, _, rfl, by k_asm, eN, _, _, _, rfl, rfl, by assumption, by assumption, by assumption⟩
/-- the number of equal parts at the beginning -/
def comL : List Str → List Str → Nat
  | a :: u, b :: v => if a = b then comL u v + 1 else 0
  | _, _ => 0
theorem comL_nil (u : List Str) : comL u [] = 0 := by cases u <;> rfl
theorem comL_le : ∀ (u v : List Str), comL u v ≤ u.length ∧ comL u v ≤ v.length
  | a :: u, b :: v => by
    have := comL_le u v
    unfold comL
    split <;> simp <;> omega
  | [], v => by cases v <;> exact ⟨Nat.zero_le _, Nat.zero_le _⟩
  | a :: u, [] => ⟨Nat.zero_le _, Nat.zero_le _⟩
theorem comL_step {u v : List Str} {k : Nat} {p q : Str} (hk : comL u v = k + comL (u.drop k) (v.drop k)) (hu : u[k]? = some p) (hv : v[k]? = some q) :
    (p = q → comL u v = (k + 1) + comL (u.drop (k + 1)) (v.drop (k + 1))) ∧ (p ≠ q → comL u v = k) := by
  obtain ⟨h1, e1⟩ := List.getElem?_eq_some_iff.mp hu
  obtain ⟨h2, e2⟩ := List.getElem?_eq_some_iff.mp hv
  rw [List.drop_eq_getElem_cons h1, List.drop_eq_getElem_cons h2, e1, e2] at hk
  refine ⟨fun e => ?_, fun e => ?_⟩
  · rw [hk, comL, if_pos e]; omega
  · rw [hk, comL, if_neg e, Nat.add_zero]
theorem com_go {xs ys : List Str} {k : Nat} {cn : Int} {p q : Str} (hk : cn = k) (hk3 : comL xs ys = k + comL (xs.drop k) (ys.drop k)) (hx : xs[cn.toNat]? = some p) (hy : ys[cn.toNat]? = some q) (e : (p == q) = true) :
    (∃ k' : Nat, cn + 1 = k' ∧ k' ≤ xs.length ∧ k' ≤ ys.length ∧ comL xs ys = k' + comL (xs.drop k') (ys.drop k')) ∧ xs.length - (cn + 1).toNat < xs.length - cn.toNat := by
  subst hk
  rw [Int.toNat_natCast] at hx hy
  have h1 := (List.getElem?_eq_some_iff.mp hx).1
  have h2 := (List.getElem?_eq_some_iff.mp hy).1
  exact ⟨⟨k + 1, rfl, h1, h2, (comL_step hk3 hx hy).1 (by simpa using e)⟩, by omega⟩
theorem com_stop {xs ys : List Str} {k : Nat} {cn : Int} {p q : Str} (hk : cn = k) (hk3 : comL xs ys = k + comL (xs.drop k) (ys.drop k)) (hx : xs[cn.toNat]? = some p) (hy : ys[cn.toNat]? = some q) (e : (p == q) = false) : cn = (comL xs ys : Int) := by
  subst hk
  rw [Int.toNat_natCast] at hx hy
  rw [(comL_step hk3 hx hy).2 (by simpa using e)]
theorem com_end {xs ys : List Str} {k : Nat} {cn : Int} (hk : cn = k) (hk3 : comL xs ys = k + comL (xs.drop k) (ys.drop k)) (h : xs.length ≤ k ∨ ys.length ≤ k) : cn = (comL xs ys : Int) := by
  subst hk
  rcases h with h | h
  · rw [List.drop_eq_nil_of_le h] at hk3
    rw [hk3]; show _ = ((k + 0 : Nat) : Int); rfl
  · rw [List.drop_eq_nil_of_le h, comL_nil] at hk3
    rw [hk3]; rfl
section
variable {prog : Program} {w : World} {A : Around} {E : Value → Shared → Prop} {s : Shared} {h₀ : Heap} {L : Addr} {news : List (Addr × Obj)} {value slice : PySem.Expr} {l : Addr} {vs : List Value} {xs : List Str} {n : Nat} {k : Int} {u : Tok} {Q : Value → Shared → Prop}
theorem sub_text (N : News h₀ L s.heap news) (hm : (l, W.listOf vs.toArray n) ∈ news) (hS : StrsAre vs xs) (h0 : 0 ≤ k) (h1 : k < xs.length) (h9 : xs.length ≤ 100)
    (h : ∀ (p : Str) (t : Tok), xs[k.toNat]? = some p → p ∈ xs → Q (.str p t) s)
    (hs : subscripted slice false (.ref l) (.int k u) = operate [.ref l, .int k u] (getItem (.ref l) (.int k u)) := by with_unfolding_all rfl) :
    wpAny (model prog w) A (subscriptTail value slice (.ref l) (.int k u)) Q E s := by
  have hL : s.heap.IsList l vs.toArray := News.isList N hm
  have hlen := hS.length
  have hv : vs[k.toNat]? = some (vs[k.toNat]'(by omega)) := List.getElem?_eq_getElem _
  obtain ⟨p, t, e1, e2, e3⟩ := strs_at hS hv
  exact tail_any hL.typeIs slot_list_getitem.lookup (wpAny_getItem_list hL h0 (by omega) (by simpa using hv.trans (by rw [e1])) (h p t e2 e3)) hs
end
theorem word_44 : True := by
  (k_with "subscriptTail" => (k_here; (with_reducible show wpAny _ _ (subscriptTail _ _ (Value.ref _) (Value.int _ _)) _ _ _); k_dflt (refine' sub_text ?Nzh ?mzh ?szh ?azh ?bzh ?czh ?_; (case Nzh => k_asm); (case mzh => k_mem); (case szh => assumption); (case azh => first | assumption | omega); (case bzh => omega); (case czh => omega)); intro x8zq t8zq hx8zq hm8zq))
  trivial
theorem common_length_spec (w : World) (news : List (Addr × Obj)) (u v : Addr) (n1 n2 : Nat) (us vs : List Value) (xs ys : List Str) (hu : (u, W.listOf us.toArray n1) ∈ news) (hv : (v, W.listOf vs.toArray n2) ∈ news) (hs1 : StrsAre us xs) (hs2 : StrsAre vs ys) (hx : xs.length ≤ 10) (hy : ys.length ≤ 10) :
    Spec w 159 [.ref u, .ref v] 1 30 news (fun r news' => news' = news ∧ ∃ t, r = .int (comL xs ys) t) := by
  refine' Spec.of_body (binds := [("u", .ref u), ("v", .ref v)]) ?ho ?hcd ?hb ?hl (by decide) ?c2 ?c3 ?c4 ?c5 ?_
  (case ho => k_dflt k_is)
  (case hcd => k_dflt k_is)
  (case hb => intro s; exact BindsTo.of_eq rfl)
  (case hl => exact locs rfl)
  (case c2 => exact rfl)
  (case c3 => exact rfl)
  (case c4 => exact rfl)
  (case c5 => decide)
  k_whole
  intro dp0 un0 gd0 cn0 cs0 L0 a0 ccd0 cl0 outer0 base0 g0 L1 h1 p0 loose0 mean0 mg0 mb0 s0 tk0 B0 F0 X0 N0 T0 hdp hun hlt
  (try dsimp only [List.reverse_cons, List.reverse_nil, List.nil_append, List.cons_append] at F0)
  have hOn : HoldOn := ⟨⟩
  (try k_fold)
  have l1 := hs1.length
  have l2 := hs2.length
  k_steps
  refine Hold.of ?_
  refine' ksw_while (σ := Int × Tok) (fun _ => news) (fun c => [(Str.ofString "count", .int c.1 c.2)]) (fun _ => True) [] (fun c => ∃ k : Nat, c.1 = k ∧ k ≤ xs.length ∧ k ≤ ys.length ∧ comL xs ys = k + comL (xs.drop k) (ys.drop k)) (fun c => xs.length - c.1.toNat) (0, _) (by assumption) (by assumption) trivial ?ps ?pp ?turn
  case ps => exact List.forall_mem_cons.mpr ⟨by with_unfolding_all rfl, List.forall_mem_nil _⟩
  case pp => exact ⟨0, rfl, Nat.zero_le _, Nat.zero_le _, by simp⟩
  case turn =>
    rintro ⟨cn, ct⟩ u h' tk' _ ⟨k, hk, hk1, hk2, hk3⟩ F' N'
    dsimp only [kstB] at F' N' hk hk1
    (try k_fold)
    k_steps
    · refine Hold.of ?_
      (rename Fr _ _ _ _ => eF)
      (rename News _ _ _ _ => eN)
      (try simp only [List.push_toArray] at eN)
      have hn := com_go hk hk3 (by assumption) (by assumption) (by assumption)
      exact ksw_end (σ := Int × Tok) (_, _) eF eN (fun _ hp => hp) trivial (List.forall_mem_cons.mpr ⟨by with_unfolding_all rfl, List.forall_mem_nil _⟩) (by ksw_same) hn.1 hn.2
    · walk_at "mine pure"
      exact ⟨_, congrArg (fun z => Value.int z _) (com_stop hk hk3 (by assumption) (by assumption) (by assumption))⟩
    · walk_at "mine pure"
      exact ⟨_, congrArg (fun z => Value.int z _) (com_end hk hk3 (by omega))⟩
    · walk_at "mine pure"
      exact ⟨_, congrArg (fun z => Value.int z _) (com_end hk hk3 (by omega))⟩
theorem word_45 : True := by
  (k_with "call ref" => (k_here; (with_reducible show wpAny _ _ (call (Value.ref 159) _) _ _ _); k_dflt (refine' Spec.use (common_length_spec _ _ _ _ _ _ _ _ _ _ ?huzh ?hvzh ?h1zh ?h2zh ?hxzh ?hyzh) ?k1zh ?k2zh ?k3zh ?k4zh ?k5zh ?kKzh ?kdzh ?kuzh ?_; (case k1zh => k_asm); (case k2zh => k_asm); (case k3zh => k_asm); (case k4zh => k_asm); (case k5zh => k_asm); (case kKzh => first | exact rfl | assumption); (case kdzh => ktr_room); (case kuzh => ktr_units); (case huzh => k_mem); (case hvzh => k_mem); (case h1zh => assumption); (case h2zh => assumption); (case hxzh => omega); (case hyzh => omega)); intro r9zq nw9zq h9zq tk9zq F9zq N9zq hr9zq; obtain ⟨e9zq, t9zq, e9bzq⟩ := hr9zq; (have e8zq := e9zq.symm); (clear e9zq); (subst e8zq); (try subst e9bzq); (try dsimp only at N9zq); (try dsimp only); (try k_lt l9zq); (try k_sweep)))
  trivial

theorem pick_init {vs : List Value} {xs : List Str} {la : Str} (h : StrsAre vs (xs ++ [la])) : StrsAre (slicePick vs.toArray none (some (-1)) none).toList xs := by
  have hl := h.length
  rw [List.length_append, List.length_singleton] at hl
  have e : sliceBounds none (some (-1)) none vs.toArray.size = (((0 : Nat) : Int), ((xs.length : Nat) : Int), 1) := by
    simp only [sliceBounds, Option.getD_none, show (1 : Int) > 0 by decide, if_true, show (-1 : Int) < 0 by decide, List.size_toArray]
    congr 1
    congr 1
    omega
  rw [kmk_pick_nat _ e]
  have := h.take' xs.length
  rw [List.take_left] at this
  simpa using this
theorem pick_from {vs : List Value} {xs : List Str} {x : Int} (h : StrsAre vs xs) (h0 : 0 ≤ x) : StrsAre (slicePick vs.toArray (some x) none none).toList (xs.drop x.toNat) := by
  have e : sliceBounds (some x) none none vs.toArray.size = (((min x.toNat vs.toArray.size : Nat) : Int), ((vs.toArray.size : Nat) : Int), 1) := by
    simp only [sliceBounds, Option.getD_none, show (1 : Int) > 0 by decide, if_true, if_neg (show ¬ (x < 0) by omega)]
    congr 1
    omega
  rw [kmk_pick_nat _ e]
  show StrsAre ((vs.drop (min x.toNat vs.toArray.size)).take (vs.toArray.size - min x.toNat vs.toArray.size)) _
  rw [List.size_toArray, kmk_drop_min, List.take_of_length_le (by rw [List.length_drop]; omega)]
  exact h.drop' _
theorem pick_upto {vs : List Value} {xs : List Str} {y : Int} (h : StrsAre vs xs) (h0 : 0 ≤ y) : StrsAre (slicePick vs.toArray none (some y) none).toList (xs.take y.toNat) := by
  have e : sliceBounds none (some y) none vs.toArray.size = (((0 : Nat) : Int), ((min y.toNat vs.toArray.size : Nat) : Int), 1) := by
    simp only [sliceBounds, Option.getD_none, show (1 : Int) > 0 by decide, if_true, if_neg (show ¬ (y < 0) by omega)]
    congr 1
    congr 1
    omega
  rw [kmk_pick_nat _ e]
  show StrsAre ((vs.drop 0).take (min y.toNat vs.toArray.size - 0)) _
  rw [List.drop_zero, Nat.sub_zero, List.size_toArray, kmk_take_min]
  exact h.take' _
section
variable {prog : Program} {w : World} {A : Around} {E : Value → Shared → Prop} {s : Shared} {h₀ : Heap} {L l : Addr} {m : Str → Option Value} {news : List (Addr × Obj)} {value slice : PySem.Expr} {n : Nat} {vs : List Value} {xs ys : List Str} {la : Str} {vl vu : Value} {lo hi : Option Int} {u : Tok} {Q : Value → Shared → Prop}
theorem slice_txt (F : Fr h₀ L s.heap m) (N : News h₀ L s.heap news) (hm : (l, W.listOf vs.toArray n) ∈ news) (pl : IsPart vl lo) (pu : IsPart vu hi) (h0 : StrsAre vs xs) (h9 : xs.length ≤ 100) (hS : StrsAre (slicePick vs.toArray lo hi none).toList ys)
    (h : ∀ (D : Addr) (ws : List Value) (h' : Heap), Fr h₀ L h' m → News h₀ L h' ((D, W.listOf ws.toArray 0) :: news) → (∀ p ∈ news, p.1 < D) → StrsAre ws ys → ys.length = ws.length → Q (.ref D) { s with heap := h' })
    (hs : subscripted slice false (.ref l) (.ref s.heap.objs.size) = operate [.ref s.heap.objs.size, .ref l] (getItem (.ref l) (.ref s.heap.objs.size))) (ht : ∀ r, letTemporaryGo value (.ref l) r = pure ()) :
    wpAny (model prog w) A (subscriptTail value slice (.ref l) (.ref s.heap.objs.size)) Q E { s with heap := s.heap.push { cls := .type "slice", data := .fields #[vl, vu, .none] } } :=
  kmk_slice_lit F N (News.isList N hm) pl pu rfl (fun D h' F' N' o => h D _ h' F' N' o hS hS.length.symm) hs ht (by rw [List.size_toArray, h0.length, sizeLine_eq]; omega)
theorem sub_last (N : News h₀ L s.heap news) (hm : (l, W.listOf vs.toArray n) ∈ news) (hS : StrsAre vs (xs ++ [la])) (h9 : xs.length ≤ 100)
    (h : ∀ t, Q (.str la t) s)
    (hs : subscripted slice false (.ref l) (.int (-1) u) = operate [.ref l, .int (-1) u] (getItem (.ref l) (.int (-1) u)) := by with_unfolding_all rfl) :
    wpAny (model prog w) A (subscriptTail value slice (.ref l) (.int (-1) u)) Q E s := by
  have hL : s.heap.IsList l vs.toArray := News.isList N hm
  have hl := hS.length
  rw [List.length_append, List.length_singleton] at hl
  have hv : vs[xs.length]? = some (vs[xs.length]'(by omega)) := List.getElem?_eq_getElem _
  obtain ⟨p, t, e1, e2, _⟩ := strs_at hS hv
  have e3 : p = la := by simpa using e2.symm
  refine tail_any hL.typeIs slot_list_getitem.lookup (wpAny_getItem_list_neg (x := .str la t) hL (by decide) (by rw [List.size_toArray]; omega) (by decide) ?_ (h t)) hs
  rw [List.size_toArray, show ((-1 : Int) + (vs.length : Nat)).toNat = xs.length by omega]
  simpa using hv.trans (by rw [e1, e3])
end
theorem word_46 : True := by
  (k_with "subscriptTail Name Slice ref ref" => (k_here; (with_reducible show wpAny _ _ (subscriptTail _ (PySem.Expr.Slice _ _ none _) (Value.ref _) (Value.ref _)) _ _ _); k_dflt (refine' slice_txt ?Fzh ?Nzh ?mzh ?pzh ?qzh ?azh ?bzh ?izh ?_ ?szh ?tzh; (case Fzh => k_asm); (case Nzh => k_asm); (case mzh => k_mem); (case pzh => kmk_part); (case qzh => kmk_part); (case azh => assumption); (case bzh => ((try simp only [List.length_append, List.length_cons, List.length_nil]); omega)); (case izh => first | exact pick_init (by assumption) | exact pick_from (by assumption) (by omega) | exact pick_upto (by assumption) (by omega)); (case szh => with_unfolding_all rfl); (case tzh => kmk_pure)); intro D'zq ws'zq h'zq F'zq N'zq l1zq hS'zq hL'zq; (try k_lt l1zq); (try k_sweep)))
  trivial
theorem word_47 : True := by
  (k_with "subscriptTail" => (k_here; (with_reducible show wpAny _ _ (subscriptTail _ _ (Value.ref _) (Value.int (-1) _)) _ _ _); k_dflt (refine' sub_last ?Nzh ?mzh ?szh ?czh ?_; (case Nzh => k_asm); (case mzh => k_mem); (case szh => assumption); (case czh => omega)); intro t8zq))
  trivial
theorem word_48 : True := by
  (k_with "subscriptTail Name UnaryOp ref int" => (k_here; (with_reducible show wpAny _ _ (subscriptTail _ _ (Value.ref _) (Value.int (-1) _)) _ _ _); k_dflt (refine' sub_last ?Nzh ?mzh ?szh ?czh ?_; (case Nzh => k_asm); (case mzh => k_mem); (case szh => assumption); (case czh => omega)); intro t8zq))
  trivial

/-- a variable of the dump -/
structure Vr where
  path : Str
  ws : List Str
  la : Str
  wd : Int
  kd : Str
  nm : Str
structure VrOk (v : Vr) : Prop where
  parts : Parts v.path v.ws v.la
  kd : v.kd = Str.ofString "wire" ∨ v.kd = Str.ofString "reg"
  lo : 1 ≤ v.wd
  hi : v.wd ≤ 5
  nm : v.nm.length ≤ 4
def VrIn (led : List (Addr × Obj)) (x : Value) (v : Vr) : Prop :=
  ∃ (tp : Addr) (n : Nat) (t1 t2 t3 t4 : Tok), x = .ref tp ∧ (tp, tupObj [.str v.path t1, .int v.wd t2, .str v.kd t3, .str v.nm t4] n) ∈ led
inductive VrAll (led : List (Addr × Obj)) : List Value → List Vr → Prop
  | nil : VrAll led [] []
  | snoc {xs : List Value} {vs : List Vr} {x : Value} {v : Vr} : VrAll led xs vs → VrIn led x v → VrAll led (xs ++ [x]) (vs ++ [v])
theorem VrAll.mono {led led' : List (Addr × Obj)} (hs : ∀ p ∈ led, p ∈ led') {xs : List Value} {vs : List Vr} (h : VrAll led xs vs) : VrAll led' xs vs := by
  induction h with
  | nil => exact .nil
  | snoc _ h ih =>
    obtain ⟨tp, n, t1, t2, t3, t4, h1, h2⟩ := h
    exact .snoc ih ⟨tp, n, t1, t2, t3, t4, h1, hs _ h2⟩
theorem VrAll.length {led : List (Addr × Obj)} {xs : List Value} {vs : List Vr} (h : VrAll led xs vs) : xs.length = vs.length := by
  induction h with
  | nil => rfl
  | snoc _ _ ih => simp [ih]
theorem VrAll.at {led : List (Addr × Obj)} {xs : List Value} {vs : List Vr} (h : VrAll led xs vs) : ∀ {i : Nat} {x : Value}, xs[i]? = some x → ∃ v, vs[i]? = some v ∧ VrIn led x v := by
  induction h with
  | nil => intro i x e; simp at e
  | @snoc xs vs x v hs h ih =>
    intro i y e
    have el := hs.length
    by_cases hc : i < xs.length
    · rw [List.getElem?_append_left hc] at e
      obtain ⟨v', h1, h2⟩ := ih e
      exact ⟨v', by rw [List.getElem?_append_left (by omega)]; exact h1, h2⟩
    · have hi : i < (xs ++ [x]).length := (List.getElem?_eq_some_iff.mp e).1
      have hc2 : i = xs.length := by rw [List.length_append, List.length_singleton] at hi; omega
      subst hc2
      have ey : x = y := by simpa using e
      exact ⟨v, by rw [el]; exact List.getElem?_concat_length, ey ▸ h⟩
structure DSt where
  rvs : List Value
  rows : List Str
  re : Nat
  sl : Addr
  svs : List Value
  se : Nat
  sc : List Str
theorem field_str9 {prog : Program} {w : World} {A : Around} {E : Value → Shared → Prop} {s : Shared} {x : Str} {t : Tok} {Q : Value → Shared → Prop} (h : ∀ t' k, Q (.str x t') { s with toks := k }) (hsz : x.length ≤ sizeLine) : wpAny (model prog w) A (formatField (.str x t) Str.empty) Q E s := wpAny_formatField_str (h _ _) (h _ _) hsz
def upT : Str := Str.ofString "$upscope $end"
def scopeT (p : Str) : Str := Str.ofString "$scope module " ++ p ++ Str.ofString " $end"
def spanT (wd : Int) : Str := if wd > 1 then Str.ofString " [" ++ Str.ofString (toString (wd - 1)) ++ Str.ofString ":0]" else Str.ofString ""
def varT (v : Vr) : Str := Str.ofString "$var " ++ v.kd ++ Str.ofString " " ++ Str.ofString (toString v.wd) ++ Str.ofString " " ++ v.nm ++ Str.ofString " " ++ v.la ++ spanT v.wd ++ Str.ofString " $end"
theorem news_cut {h₀ h : Heap} {L : Addr} {A B C : List (Addr × Obj)} (N : News h₀ L h (A ++ (B ++ C))) : News h₀ L h (A ++ B) := fun p hp => N p (by rw [← List.append_assoc]; exact List.mem_append_left _ hp)
theorem nameE {P : Prop} {h₀ h : Heap} {L D2 D1 : Addr} {ws : List Value} {o : Obj} {n : Nat} {rs : List (Addr × Obj)} (_N : News h₀ L h ((D2, W.listOf ws.toArray n) :: (D1, o) :: rs)) (k : ∀ (D2' D1' : Addr) (ws' : List Value) (o' : Obj), D2' = D2 → D1' = D1 → ws' = ws → o' = o → P) : P := k D2 D1 ws o rfl rfl rfl rfl
def stepD (st : List Str × List Str) (v : Vr) : List Str × List Str :=
  (st.1 ++ List.replicate (st.2.length - comL st.2 v.ws) upT ++ (v.ws.drop (comL st.2 v.ws)).map scopeT ++ [varT v], v.ws)
theorem word_49 : True := by
  (k_with "formatField str" => (k_here; (with_reducible show wpAny _ _ (formatField (Value.str _ _) Str.empty) _ _ _); (refine' field_str9 ?_ ?zzh; (case zzh => first | size_fits | decide +kernel)); intro t8zq k8zq))
  trivial
theorem strs_snoc {rvs : List Value} {rs : List Str} {x y : Str} {tk : Tok} (h : StrsAre rvs rs) (e : x = y) : StrsAre (rvs ++ [.str x tk]) (rs ++ [y]) := by subst e; exact kct_snoc h
theorem declS_snoc {vs : List Vr} {i n : Nat} {vr : Vr} {rows sc rs3 qs : List Str} {txt : Str} (hvi : vs[i]? = some vr) (g1 : (rows, sc) = (vs.take i).foldl stepD ([], [])) (q2 : qs = rows ++ List.replicate n upT) (hn : n = sc.length - comL sc vr.ws)
    (m2 : rs3 = qs ++ (vr.ws.drop (comL sc vr.ws)).map scopeT) (ht : txt = varT vr) : (rs3 ++ [txt], vr.ws) = (vs.take (i + 1)).foldl stepD ([], []) := by
  rw [List.take_add_one, hvi, List.foldl_append, ← g1]
  subst m2 q2 hn ht
  rfl
/-- the rows that declare -/
def rowsD (vs : List Vr) : List Str := (vs.foldl stepD ([], [])).1 ++ List.replicate (vs.foldl stepD ([], [])).2.length upT
theorem num_len {v : Int} (h0 : 0 ≤ v) (h : v < 10 ^ 4) : (Str.ofString (toString v)).length ≤ 4 := toString_length_le h0 (by decide) h
theorem upT_len : upT.length ≤ 80 := by decide +kernel
theorem scopeT_len {p : Str} (h : p.length ≤ 4) : (scopeT p).length ≤ 80 := by
  unfold scopeT
  rw [Str.length_append, Str.length_append, show (Str.ofString "$scope module ").length = 14 by decide +kernel, show (Str.ofString " $end").length = 5 by decide +kernel]
  omega
theorem spanT_len {wd : Int} (h1 : 1 ≤ wd) (h5 : wd ≤ 5) : (spanT wd).length ≤ 10 := by
  unfold spanT
  have := num_len (v := wd - 1) (by omega) (by omega)
  split
  · rw [Str.length_append, Str.length_append, show (Str.ofString " [").length = 2 by decide +kernel, show (Str.ofString ":0]").length = 3 by decide +kernel]
    omega
  · decide +kernel
theorem varT_len {v : Vr} (h : VrOk v) : (varT v).length ≤ 80 := by
  have h1 := num_len (v := v.wd) (by have := h.lo; omega) (by have := h.hi; omega)
  have h2 := spanT_len h.lo h.hi
  have h3 : v.kd.length ≤ 4 := by rcases h.kd with e | e <;> rw [e] <;> decide
  have h4 : v.la.length ≤ 4 := of_decide_eq_true (Bool.and_eq_true_iff.mp (List.all_eq_true.mp h.parts.ok v.la (List.mem_append_right _ (.head _)))).2
  have h5 := h.nm
  unfold varT
  simp only [Str.length_append, show (Str.ofString "$var ").length = 5 by decide +kernel, show (Str.ofString " ").length = 1 by decide +kernel, show (Str.ofString " $end").length = 5 by decide +kernel]
  omega
theorem stepD_ok : ∀ (vs : List Vr) (r0 s0 : List Str), (∀ v ∈ vs, VrOk v) → s0.length ≤ 3 →
    (vs.foldl stepD (r0, s0)).1.length ≤ r0.length + 7 * vs.length ∧ (vs.foldl stepD (r0, s0)).2.length ≤ 3 ∧ ∀ y ∈ (vs.foldl stepD (r0, s0)).1, y ∈ r0 ∨ y.length ≤ 80 := by
  intro vs
  induction vs with
  | nil => exact fun r0 s0 _ h => ⟨Nat.le_refl _, h, fun y hy => .inl hy⟩
  | cons v vs ih =>
    intro r0 s0 hv hs
    have hv1 := hv v (.head _)
    have h3 := hv1.parts.n3
    obtain ⟨a, b, c⟩ := ih (stepD (r0, s0) v).1 (stepD (r0, s0) v).2 (fun z hz => hv z (.tail _ hz)) h3
    have hc := comL_le s0 v.ws
    rw [List.foldl_cons]
    refine ⟨Nat.le_trans a ?_, b, fun y hy => ?_⟩
    · simp only [stepD, List.length_append, List.length_replicate, List.length_map, List.length_drop, List.length_cons, List.length_nil]
      omega
    · rcases c y hy with h | h
      · simp only [stepD, List.mem_append, List.mem_replicate, List.mem_map, List.mem_singleton] at h
        rcases h with ((h | ⟨_, rfl⟩) | ⟨p, hp, rfl⟩) | rfl
        · exact .inl h
        · exact .inr upT_len
        · exact .inr (scopeT_len (of_decide_eq_true (Bool.and_eq_true_iff.mp (List.all_eq_true.mp hv1.parts.ok p (List.mem_append_left _ (List.mem_of_mem_drop hp)))).2))
        · exact .inr (varT_len hv1)
      · exact .inr h
theorem rowsD_ok {vs : List Vr} (hv : ∀ v ∈ vs, VrOk v) : (rowsD vs).length ≤ 7 * vs.length + 3 ∧ ∀ y ∈ rowsD vs, y.length ≤ 80 := by
  obtain ⟨a, b, c⟩ := stepD_ok vs [] [] hv (Nat.zero_le _)
  rw [List.length_nil] at a
  unfold rowsD
  refine ⟨by rw [List.length_append, List.length_replicate]; omega, fun y hy => ?_⟩
  rcases List.mem_append.mp hy with h | h
  · rcases c y h with h | h
    · cases h
    · exact h
  · rw [(List.mem_replicate.mp h).2]; exact upT_len

theorem declaration_rows_spec (w : World) (news : List (Addr × Obj)) (vl : Addr) (n : Nat) (xs : List Value) (vs : List Vr) (hm : (vl, W.listOf xs.toArray n) ∈ news) (hv : VrAll news xs vs) (hl : vs.length ≤ 4) (ho : ∀ v ∈ vs, VrOk v) :
    Spec w 166 [.ref vl] 3 100 news (fun r news' => ∃ (rl : Addr) (rvs : List Value) (re : Nat), r = .ref rl ∧ news' = (rl, W.listOf rvs.toArray re) :: news ∧ StrsAre rvs (rowsD vs) ∧ ∀ p ∈ news, p.1 < rl) := by
  refine' Spec.of_body (binds := [("variables", .ref vl)]) ?ho ?hcd ?hb ?hl (by decide) ?c2 ?c3 ?c4 ?c5 ?_
  (case ho => k_dflt k_is)
  (case hcd => k_dflt k_is)
  (case hb => intro s; exact BindsTo.of_eq rfl)
  (case hl => exact locs rfl)
  (case c2 => exact rfl)
  (case c3 => exact rfl)
  (case c4 => exact rfl)
  (case c5 => decide)
  k_whole
  intro dp0 un0 gd0 cn0 cs0 L0 a0 ccd0 cl0 outer0 base0 g0 L1 h1 p0 loose0 mean0 mg0 mb0 s0 tk0 B0 F0 X0 N0 T0 hdp hun hlt
  (try dsimp only [List.reverse_cons, List.reverse_nil, List.nil_append, List.cons_append] at F0)
  have hOn : HoldOn := ⟨⟩
  (try k_fold)
  k_steps
  refine Hold.of ?_
  (rename News _ _ _ _ => eN)
  (rename Fr _ _ _ _ => eF)
  refine nameH eN fun sl0 rl p1 p2 r1 r2 r3 r4 => ?_
  subst r1 r2
  clear r3 r4
  refine' kd_anyT (σ := DSt) (fun c => [(rl, W.listOf c.rvs.toArray c.re)]) ((sl0, W.listOf #[] 0) :: news) (fun c => [(Str.ofString "scopes", .ref c.sl)]) (fun led c => StrsAre c.rvs c.rows ∧ StrsAre c.svs c.sc ∧ (c.sl, W.listOf c.svs.toArray c.se) ∈ led)
    [Str.ofString "width", Str.ofString "kind", Str.ofString "name", Str.ofString "parts", Str.ofString "wanted", Str.ofString "kept", Str.ofString "_", Str.ofString "part", Str.ofString "extent"]
    (fun i c => (c.rows, c.sc) = (vs.take i).foldl stepD ([], []) ∧ c.rows.length ≤ 7 * i ∧ c.sc.length ≤ 3) (rl :: sl0 :: news.map (·.1)) ⟨[], [], _, sl0, [], 0, []⟩ (Str.ofString "path")
    (by rfl) (.tail _ hm) eF eN ?hn (fun _ => rfl) ?hf ?hk ?hp ?turn ?done
  case hn => kd_inAll
  case hf => exact ⟨.nil, .nil, .head _⟩
  case hk => exact List.forall_mem_cons.mpr ⟨by with_unfolding_all rfl, List.forall_mem_nil _⟩
  case hp => exact ⟨rfl, Nat.le_refl _, Nat.zero_le _⟩
  case turn =>
    clear eN eF
    rintro ⟨rvs, rows, re, sl, svs, se, sc⟩ tl i v u ⟨h', g', d', tk', o'⟩ own hv' hsep hoff ⟨f1, f2, f3⟩ ⟨g1, g2, g3⟩ F' N'
    obtain ⟨vr, hvi, tp, n', t1, t2, t3, t4, rfl, hmt⟩ := hv.at hv'
    obtain ⟨hP, hkd, hw1, hw2, hnm⟩ := ho vr (List.mem_of_getElem? hvi)
    have hn3 := hP.n3
    have hkl : vr.kd.length ≤ 4 := by rcases hkd with e | e <;> rw [e] <;> decide
    have hll : vr.la.length ≤ 4 := of_decide_eq_true (Bool.and_eq_true_iff.mp (List.all_eq_true.mp hP.ok vr.la (List.mem_append_right _ (.head _)))).2
    have hn1 := hP.n1
    dsimp only [kstB] at F' N' f1 f2 f3 g1 g2 g3 ⊢
    simp only [List.cons_append, List.nil_append] at N' f3
    have f3' : (sl, W.listOf svs.toArray se) ∈ (sl0, W.listOf #[] 0) :: (news ++ (tl ++ own)) := by
      rcases List.mem_cons.mp f3 with e | e
      · exact e ▸ .head _
      · rw [← List.append_assoc]; exact .tail _ (List.mem_append_left _ e)
    have hsl := f2.length
    have hrl := f1.length
    have hi4 : i < 4 := by have h9 := (List.getElem?_eq_some_iff.mp hvi).1; omega
    have hcl := comL_le sc vr.ws
    (try k_fold)
    generalize hS9 : KdS _ _ _ _ _ _ _ _ _ _ = S9
    k_steps
    refine Hold.of ?_
    (rename IsRange _ _ _ _ _ _ _ _ => hR)
    (rename Fr _ _ _ _ => eF)
    (rename News _ _ _ _ => eN)
    refine nameE eN fun D2 D1 ws2 p2 r1 r2 r3 r4 => ?_
    subst r1 r2 r3 r4
    refine' kd_range (σ := List Value × List Str × Nat) (fun c => [(rl, W.listOf c.1.toArray c.2.2)]) ((D2, _) :: (D1, _) :: (sl0, W.listOf #[] 0) :: (news ++ (tl ++ own))) (fun _ => []) (fun _ c => StrsAre c.1 c.2.1) []
      (fun pre c => c.2.1 = rows ++ List.replicate pre.length upT ∧ c.2.1.length = rows.length + pre.length) (rl :: D2 :: D1 :: sl0 :: (news ++ (tl ++ own)).map (·.1)) (rvs, rows, re)
      (by rfl) hR (small_one (by omega) (by omega) (by omega) (by omega)) (rangeSize_nat _ _) eF eN ?hn1 (fun _ => rfl) f1 (fun _ hp => nomatch hp) ⟨(List.append_nil _).symm, rfl⟩ ?turn1 ?done1
    case hn1 => kd_inAll
    case turn1 =>
      clear hR eF eN
      rintro ⟨qvs, qs, qe⟩ tl2 pr k1 kt u1 h1' tk1 own1 hk1 hlt1 hsep1 hoff1 q1 ⟨q2, q3⟩ F' N'
      dsimp only [kstB] at F' N' q1 q2 q3
      simp only [List.cons_append, List.nil_append] at N'
      have q4 := q1.length
      (try k_fold)
      refine gen_post fun S8 Q8 hS8 => ?_
      k_steps
      refine Hold.of ?_
      (rename Fr _ _ _ _ => eF)
      (rename News _ _ _ _ => eN)
      (try simp only [List.push_toArray] at eN)
      subst hS8
      refine' kd_end (σ := List Value × List Str × Nat) (tl := tl2) ⟨_, _, _⟩ [] ?kS ?kF ?kN ?kn ?ko ?ka ?kb ?kw ?kk ?kr ?kf ?kp
      case kS => assumption
      case kF => exact eF
      case kN => exact eN
      case kn => kd_inAll
      case ko => (intro p hp; kst_mem)
      case ka => rfl
      case kb => exact List.forall_mem_nil _
      case kw => exact List.forall_mem_nil _
      case kk => exact fun _ hp => nomatch hp
      case kr => kst_same
      case kf => exact kct_snoc q1
      case kp => exact ⟨by rw [q2, List.append_assoc, List.length_append, List.length_singleton, List.replicate_succ']; rfl, by simp only [List.length_append, List.length_singleton]; omega⟩
    case done1 =>
      clear hR eF eN
      rintro ⟨qvs, qs, qe⟩ tl2 u1 h1' tk1 hoff1 q1 ⟨q2, q3⟩ F' N'
      rw [rangeKs_length] at q2 q3
      replace N' := news_cut N'
      dsimp only [kstB] at F' N' q1 q2 q3
      simp only [List.cons_append, List.nil_append] at N'
      have q4 := q1.length
      (try k_fold)
      k_steps
      refine Hold.of ?_
      (rename Fr _ _ _ _ => eF)
      (rename News _ _ _ _ => eN)
      refine nameD eN fun D3 ws3 r1 r2 => ?_
      subst r1 r2
      have hs3 : StrsAre ws3 (vr.ws.drop (comL sc vr.ws)) := by assumption
      refine' kd_any (σ := List Value × List Str × Nat) (fun c => [(rl, W.listOf c.1.toArray c.2.2)]) ((D3, W.listOf ws3.toArray 0) :: (D2, _) :: (D1, _) :: (sl0, W.listOf #[] 0) :: (news ++ (tl ++ own))) (fun _ => []) (fun _ c => StrsAre c.1 c.2.1) []
        (fun j c => c.2.1 = qs ++ ((vr.ws.drop (comL sc vr.ws)).take j).map scopeT ∧ c.2.1.length = qs.length + j) (rl :: D3 :: D2 :: D1 :: sl0 :: (news ++ (tl ++ own)).map (·.1)) (qvs, qs, qe)
        (by rfl) (.head _) eF eN ?hn1 (fun _ => rfl) q1 (fun _ hp => nomatch hp) ⟨(List.append_nil _).symm, rfl⟩ ?turn3 ?done3
      case hn1 => kd_inAll
      case turn3 =>
        clear eF eN
        rintro ⟨rvs3, rs3, re3⟩ tl3 j v3 u3 h3' tk3 own3 hv3 hsep3 hoff3 m1 ⟨m2, m3⟩ F' N'
        obtain ⟨p3, tp3, rfl, hp3, hm3⟩ := strs_at hs3 hv3
        have hp4 : p3.length ≤ 4 := of_decide_eq_true (Bool.and_eq_true_iff.mp (List.all_eq_true.mp hP.ok p3 (List.mem_append_left _ (List.mem_of_mem_drop hm3)))).2
        have hj4 : j < 3 := by
          have h9 := (List.getElem?_eq_some_iff.mp hp3).1
          rw [List.length_drop] at h9
          omega
        dsimp only [kstB] at F' N' m1 m2 m3
        simp only [List.cons_append, List.nil_append] at N'
        have m4 := m1.length
        (try k_fold)
        refine gen_post fun S8 Q8 hS8 => ?_
        k_steps
        refine Hold.of ?_
        (rename Fr _ _ _ _ => eF)
        (rename News _ _ _ _ => eN)
        (try simp only [List.push_toArray] at eN)
        subst hS8
        refine' kd_end (σ := List Value × List Str × Nat) (tl := tl3) ⟨_, _, _⟩ [] ?kS ?kF ?kN ?kn ?ko ?ka ?kb ?kw ?kk ?kr ?kf ?kp
        case kS => assumption
        case kF => exact eF
        case kN => exact eN
        case kn => kd_inAll
        case ko => (intro p hp; kst_mem)
        case ka => rfl
        case kb => exact List.forall_mem_nil _
        case kw => exact List.forall_mem_nil _
        case kk => exact fun _ hp => nomatch hp
        case kr => kst_same
        case kf => exact kct_snoc m1
        case kp => exact ⟨by rw [m2, List.append_assoc, List.take_add_one, hp3, List.map_append]; rfl, by simp only [List.length_append, List.length_singleton]; omega⟩
      case done3 =>
        clear eF eN
        rintro ⟨rvs3, rs3, re3⟩ tl3 u3 h3' tk3 hoff3 m1 ⟨m2, m3⟩ F' N'
        replace N' := news_cut N'
        have hl3 := hs3.length
        rw [hl3, List.take_length] at m2
        rw [List.length_drop] at hl3
        dsimp only [kstB] at F' N' m1 m2 m3
        simp only [List.cons_append, List.nil_append] at N'
        have m4 := m1.length
        (try k_fold)
        have hb : rs3.length + 1 ≤ 7 * (i + 1) := by omega
        have hnn := Hold.of (show ((sc.length : Int) - (comL sc vr.ws : Int) - 0).toNat = sc.length - comL sc vr.ws by omega)
        have o1 : @LT.lt Nat _ rl sl0 := by omega
        have o2 : @LT.lt Nat _ rl D1 := by omega
        have o3 : @LT.lt Nat _ rl D2 := by omega
        have o4 : @LT.lt Nat _ rl D3 := by omega
        have hD2 := Hold.of (show @LT.lt Nat _ D1 D2 ∧ @LT.lt Nat _ rl D2 ∧ @LT.lt Nat _ sl0 D2 ∧ AllLt D2 (news ++ (tl ++ own)) by assumption)
        repeat ((with_reducible (rename And _ _ => hc9)); clear hc9)
        clear q3 m3 hl3
        k_steps
        all_goals refine Hold.of ?_
        all_goals (rename Fr _ _ _ _ => eF)
        all_goals (rename News _ _ _ _ => eN)
        all_goals (try simp only [List.push_toArray] at eN)
        all_goals subst hS9
        all_goals (try dsimp only)
        all_goals (have hD2' : @LT.lt Nat _ D1 D2 ∧ @LT.lt Nat _ rl D2 ∧ @LT.lt Nat _ sl0 D2 ∧ AllLt D2 (news ++ (tl ++ own)) := hD2)
        · refine' kd_end (tl := tl) ⟨_, rs3 ++ [varT vr], _, D2, ws2, 0, vr.ws⟩ [(D2, _)] ?kS ?kF ?kN ?kn ?ko ?ka ?kb ?kw ?kk ?kr ?kf ?kp
          case kS => assumption
          case kF => exact eF
          case kN => exact eN
          case kn => kd_inAll
          case ko => (intro p hp; kst_mem)
          case ka => rfl
          case kb => kd_addB
          case kw => kd_addW
          case kk => exact List.forall_mem_cons.mpr ⟨by with_unfolding_all rfl, List.forall_mem_nil _⟩
          case kr => kst_same
          case kf => exact ⟨strs_snoc m1 (by unfold varT spanT; rw [if_pos (by omega)]), by assumption, kd_new (.head _)⟩
          case kp =>
            dsimp only
            exact ⟨declS_snoc hvi g1 q2 (hsl ▸ hnn) m2 rfl, by rw [List.length_append, List.length_singleton]; exact hb, hn3⟩
        · refine' kd_end (tl := tl) ⟨_, rs3 ++ [varT vr], _, D2, ws2, 0, vr.ws⟩ [(D2, _)] ?kS ?kF ?kN ?kn ?ko ?ka ?kb ?kw ?kk ?kr ?kf ?kp
          case kS => assumption
          case kF => exact eF
          case kN => exact eN
          case kn => kd_inAll
          case ko => (intro p hp; kst_mem)
          case ka => rfl
          case kb => kd_addB
          case kw => kd_addW
          case kk => exact List.forall_mem_cons.mpr ⟨by with_unfolding_all rfl, List.forall_mem_nil _⟩
          case kr => kst_same
          case kf => exact ⟨strs_snoc m1 (by unfold varT spanT; rw [if_neg (by omega)]), by assumption, kd_new (.head _)⟩
          case kp =>
            dsimp only
            exact ⟨declS_snoc hvi g1 q2 (hsl ▸ hnn) m2 rfl, by rw [List.length_append, List.length_singleton]; exact hb, hn3⟩
  case done =>
    clear eN eF
    rintro ⟨rvs, rows, re, sl, svs, se, sc⟩ tl u h' tk' hoff ⟨f1, f2, f3⟩ ⟨g1, g2, g3⟩ F' N'
    rw [hv.length, List.take_length] at g1
    dsimp only [kstB] at F' N' f1 f2 f3 g1 g2 g3
    simp only [List.cons_append, List.nil_append] at N' f3
    have hsl := f2.length
    have hrl := f1.length
    have hxl := hv.length
    (try k_fold)
    k_steps
    refine Hold.of ?_
    (rename Fr _ _ _ _ => eF)
    (rename News _ _ _ _ => eN)
    refine' kd_any (σ := List Value × List Str × Nat) (fun c => [(rl, W.listOf c.1.toArray c.2.2)]) ((sl0, W.listOf #[] 0) :: (news ++ tl)) (fun _ => []) (fun _ c => StrsAre c.1 c.2.1) []
      (fun j c => c.2.1 = rows ++ List.replicate j upT) (rl :: sl0 :: (news ++ tl).map (·.1)) (rvs, rows, re)
      (by rfl) f3 eF eN ?hn1 (fun _ => rfl) f1 (fun _ hp => nomatch hp) (List.append_nil _).symm ?turn1 ?done1
    case hn1 => kd_inAll
    case turn1 =>
      clear eF eN
      rintro ⟨qvs, qs, qe⟩ tl2 j v1 u1 h1' tk1 own1 hv1 hsep1 hoff1 q1 q2 F' N'
      have hj1 := (List.getElem?_eq_some_iff.mp hv1).1
      dsimp only [kstB] at F' N' q1 q2
      simp only [List.cons_append, List.nil_append] at N'
      have q4 := q1.length
      have q5 : qs.length = rows.length + j := by rw [q2, List.length_append, List.length_replicate]
      (try k_fold)
      refine gen_post fun S8 Q8 hS8 => ?_
      k_steps
      refine Hold.of ?_
      (rename Fr _ _ _ _ => eF)
      (rename News _ _ _ _ => eN)
      (try simp only [List.push_toArray] at eN)
      subst hS8
      refine' kd_end (σ := List Value × List Str × Nat) (tl := tl2) ⟨_, _, _⟩ [] ?kS ?kF ?kN ?kn ?ko ?ka ?kb ?kw ?kk ?kr ?kf ?kp
      case kS => assumption
      case kF => exact eF
      case kN => exact eN
      case kn => kd_inAll
      case ko => (intro p hp; kst_mem)
      case ka => rfl
      case kb => exact List.forall_mem_nil _
      case kw => exact List.forall_mem_nil _
      case kk => exact fun _ hp => nomatch hp
      case kr => kst_same
      case kf => exact kct_snoc q1
      case kp => dsimp only; rw [q2, List.append_assoc, List.replicate_succ']; rfl
    case done1 =>
      clear eF eN
      rintro ⟨qvs, qs, qe⟩ tl2 u1 h1' tk1 hoff1 q1 q2 F' N'
      dsimp only [kstB] at F' N' q1 q2
      simp only [List.cons_append, List.nil_append] at N'
      (try k_fold)
      k_steps
      walk_at "mine tidy"
      unfold Back
      (rename News _ _ _ _ => eN)
      refine ⟨_, _, (rl, W.listOf qvs.toArray qe) :: news, _, _, rfl, by k_asm, cb_drop eN ?_, rl, qvs, qe, rfl, rfl, ?_, ?_⟩
      · exact List.forall_mem_cons.mpr ⟨.head _, fun p hp => .tail _ (.tail _ (List.mem_append_left _ (List.mem_append_left _ hp)))⟩
      · rw [rowsD, ← g1, ← hsl, ← q2]; exact q1
      · assumption
theorem word_50 : True := by
  (k_with "call ref" => (k_here; (with_reducible show wpAny _ _ (call (Value.ref 166) _) _ _ _); k_dflt (refine' Spec.use (declaration_rows_spec _ _ _ _ _ _ ?hmzh ?hvzh ?hlzh ?hozh) ?k1zh ?k2zh ?k3zh ?k4zh ?k5zh ?kKzh ?kdzh ?kuzh ?_; (case k1zh => k_asm); (case k2zh => k_asm); (case k3zh => k_asm); (case k4zh => k_asm); (case k5zh => k_asm); (case kKzh => first | exact rfl | assumption); (case kdzh => ktr_room); (case kuzh => ktr_units); (case hmzh => k_mem); (case hvzh => exact VrAll.mono (fun _ h9zq => .tail _ h9zq) (by assumption)); (case hlzh => assumption); (case hozh => assumption)); intro r9zq nw9zq h9zq tk9zq F9zq N9zq hr9zq; obtain ⟨rl9zq, rvs9zq, re9zq, e9zq, e9bzq, hr9zq, hlt9zq⟩ := hr9zq; (have e8zq := e9zq.symm); (clear e9zq); (subst e8zq); (try subst e9bzq); (try dsimp only at N9zq); (try dsimp only); (try k_lt l9zq); (try k_sweep)))
  trivial

/-- a text without the signs that may be left out -/
noncomputable def shortOf (x : Str) : Str := @Classical.epsilon Str ⟨x⟩ (Short x)
theorem Short.eq {x y : Str} (h : Short x y) : y = shortOf x := h.uniq (@Classical.epsilon_spec Str (Short x) ⟨y, h⟩)
theorem Short.len {x y : Str} (h : Short x y) : y.length ≤ x.length := by
  obtain ⟨k, h0, h1, _, rfl⟩ := h
  have hk : k ≤ x.length := by
    by_cases hc : k = 0
    · omega
    · have := (h1 (k - 1) (by omega) (by omega)).1
      omega
  rw [slice_dropS h0 hk, dropS_len]
  omega
/-- the row of a change -/
noncomputable def chRowT (wd : Int) (nm : Str) (a b : Int) : Str := if wd = 1 then bitsT wd a b ++ nm else Str.ofString "b" ++ shortOf (bitsT wd a b) ++ Str.ofString " " ++ nm
theorem ChRow.eq {wd : Int} {nm : Str} {a b : Int} {y : Str} (h : ChRow wd nm a b y) : y = chRowT wd nm a b := by
  unfold chRowT
  rcases h with ⟨e, rfl⟩ | ⟨e, z, hz, rfl⟩
  · rw [if_pos e]
  · rw [if_neg e, hz.eq]
theorem ChRow.len {wd : Int} {nm : Str} {a b : Int} {y : Str} (h : ChRow wd nm a b y) (hw : wd ≤ 5) (hn : nm.length ≤ 4) : y.length ≤ 80 := by
  have hb := bitsT_len wd a b
  rcases h with ⟨e, rfl⟩ | ⟨e, z, hz, rfl⟩
  · rw [Str.length_append]; omega
  · have := hz.len
    rw [Str.length_append, Str.length_append, Str.length_append, show (Str.ofString "b").length = 1 by decide +kernel, show (Str.ofString " ").length = 1 by decide +kernel]
    omega
theorem idT_len (k : Int) : (idT k).length ≤ 4 := by
  unfold idT
  split
  · decide +kernel
  · split
    · decide +kernel
    · split <;> decide +kernel
def stampT (now : Int) : Str := Str.ofString "#" ++ Str.ofString (toString now)
theorem stampT_len {now : Int} (h0 : 0 ≤ now) (h : now ≤ 100) : (stampT now).length ≤ 80 := by
  have := num_len h0 (v := now) (by omega)
  unfold stampT
  rw [Str.length_append, show (Str.ofString "#").length = 1 by decide +kernel]
  omega
/-- the rows of one change more -/
noncomputable def stepT (st : List Str × Int) (h : Hv) : List Str × Int :=
  ((if h.now = st.2 then st.1 else st.1 ++ [stampT h.now]) ++ [chRowT h.wd (idT h.key) h.a h.b], h.now)
/-- a change in the writer -/
def CgIn (led : List (Addr × Obj)) (x : Value) (h : Hv) : Prop :=
  ∃ (tp tq : Addr) (n1 n2 : Nat) (t1 t2 t3 t4 t5 : Tok), x = .ref tp ∧ (tp, tupObj [.int h.now t1, .str (idT h.key) t2, .ref tq] n1) ∈ led ∧ (tq, tupObj [.int h.wd t3, .int h.a t4, .int h.b t5] n2) ∈ led
/-- two lists, item by item -/
inductive All2 {α : Type} (R : Value → α → Prop) : List Value → List α → Prop
  | nil : All2 R [] []
  | snoc {xs : List Value} {vs : List α} {x : Value} {v : α} : All2 R xs vs → R x v → All2 R (xs ++ [x]) (vs ++ [v])
theorem All2.mono {α : Type} {R S : Value → α → Prop} (hs : ∀ x v, R x v → S x v) {xs : List Value} {vs : List α} (h : All2 R xs vs) : All2 S xs vs := by
  induction h with
  | nil => exact .nil
  | snoc _ h ih => exact .snoc ih (hs _ _ h)
theorem All2.length {α : Type} {R : Value → α → Prop} {xs : List Value} {vs : List α} (h : All2 R xs vs) : xs.length = vs.length := by
  induction h with
  | nil => rfl
  | snoc _ h ih => simp [ih]
theorem All2.at {α : Type} {R : Value → α → Prop} {xs : List Value} {vs : List α} (h : All2 R xs vs) : ∀ {i : Nat} {x : Value}, xs[i]? = some x → ∃ v, vs[i]? = some v ∧ R x v := by
  induction h with
  | nil => intro i x e; simp at e
  | @snoc xs vs x v hs h ih =>
    intro i y e
    have el := hs.length
    by_cases hc : i < xs.length
    · rw [List.getElem?_append_left hc] at e
      obtain ⟨v', h1, h2⟩ := ih e
      exact ⟨v', by rw [List.getElem?_append_left (by omega)]; exact h1, h2⟩
    · have hi : i < (xs ++ [x]).length := (List.getElem?_eq_some_iff.mp e).1
      have hc2 : i = xs.length := by rw [List.length_append, List.length_singleton] at hi; omega
      subst hc2
      have ey : x = y := by simpa using e
      exact ⟨v, by rw [el]; exact List.getElem?_concat_length, ey ▸ h⟩
theorem CgIn.mono {led led' : List (Addr × Obj)} (hs : ∀ p ∈ led, p ∈ led') (v : Value) (g : Hv) (h : CgIn led v g) : CgIn led' v g := by
  obtain ⟨x, dx, n1, n2, t1, t2, t3, t4, t5, h1, h2, h3⟩ := h
  exact ⟨x, dx, n1, n2, t1, t2, t3, t4, t5, h1, hs _ h2, hs _ h3⟩
structure CgOk (h : Hv) : Prop where
  n0 : 0 ≤ h.now
  n1 : h.now ≤ 100
  lo : 1 ≤ h.wd
  hi : h.wd ≤ 5
/-- the whole text -/
noncomputable def dumpT (sc : Str) (vs : List Vr) (H : List Hv) : Str :=
  Txt.join (Str.ofString "\n") (H.foldl stepT ([Str.ofString "$timescale " ++ sc ++ Str.ofString " $end"] ++ rowsD vs ++ [Str.ofString "$enddefinitions $end"], -1)).1 ++ Str.ofString "\n"
theorem sum_len {l : List Str} {k : Nat} (h : ∀ y ∈ l, y.length ≤ k) : (l.map (·.length)).sum ≤ k * l.length := by
  induction l with
  | nil => simp
  | cons y r ih =>
    have h1 := h y (.head _)
    have h2 := ih fun z hz => h z (.tail _ hz)
    simp only [List.map_cons, List.sum_cons, List.length_cons, Nat.mul_add]
    omega
structure TSt where
  rvs : List Value
  rows : List Str
  re : Nat
  now : Int
  nt : Tok
theorem nameF {P : Prop} {h₀ h : Heap} {L D2 D1 : Addr} {ws : List Value} {o : Obj} {n : Nat} {rs : List (Addr × Obj)} (_N : News h₀ L h ((D2, W.listOf ws.toArray n) :: (D1, o) :: rs)) (k : ∀ (D2' D1' : Addr) (ws' : List Value) (n' : Nat), D2' = D2 → D1' = D1 → ws' = ws → n' = n → P) : P := k D2 D1 ws n rfl rfl rfl rfl
theorem join_len_n {ys : List Str} {k : Nat} (hk : (ys.map (·.length)).sum + ys.length ≤ k) : (Txt.join (Str.ofString "\n") ys).length ≤ k := by
  show (Builtin.Str.glued _ ys).length ≤ k
  rw [StrLaws.glued_eq_join]
  cases ys with
  | nil => exact Nat.zero_le _
  | cons x r =>
    rw [len_join_cons, show (Str.ofString "\n").length = 1 by decide +kernel, Nat.mul_one]
    rw [List.length_cons] at hk
    omega
theorem chg_new {H : List Hv} {i : Nat} {h : Hv} {zs r0 : List Str} {now n0 : Int} {y : Str} (hi : H[i]? = some h) (z2 : (zs, now) = (H.take i).foldl stepT (r0, n0)) (hne : h.now ≠ now) (z3 : zs.length ≤ 41 + 2 * i) (z4 : ∀ y ∈ zs, y.length ≤ 80)
    (h1 : (stampT h.now).length ≤ 80) (hc : ChRow h.wd (idT h.key) h.a h.b y) (hw : h.wd ≤ 5) (hn : (idT h.key).length ≤ 4) :
    (zs ++ [stampT h.now] ++ [chRowT h.wd (idT h.key) h.a h.b], h.now) = (H.take (i + 1)).foldl stepT (r0, n0) ∧ (zs ++ [stampT h.now] ++ [chRowT h.wd (idT h.key) h.a h.b]).length ≤ 41 + 2 * (i + 1) ∧ ∀ y ∈ zs ++ [stampT h.now] ++ [chRowT h.wd (idT h.key) h.a h.b], y.length ≤ 80 := by
  refine ⟨?_, by simp only [List.length_append, List.length_singleton]; omega, fun q hq => ?_⟩
  · rw [List.take_add_one, hi, List.foldl_append, ← z2]
    show _ = stepT (zs, now) h
    rw [stepT, if_neg hne]
  · rcases List.mem_append.mp hq with hq | hq
    · rcases List.mem_append.mp hq with hq | hq
      · exact z4 q hq
      · rw [List.mem_singleton.mp hq]; exact h1
    · rw [List.mem_singleton.mp hq, ← hc.eq]; exact hc.len hw hn
theorem chg_old {H : List Hv} {i : Nat} {h : Hv} {zs r0 : List Str} {now n0 : Int} {y : Str} (hi : H[i]? = some h) (z2 : (zs, now) = (H.take i).foldl stepT (r0, n0)) (hne : h.now = now) (z3 : zs.length ≤ 41 + 2 * i) (z4 : ∀ y ∈ zs, y.length ≤ 80)
    (hc : ChRow h.wd (idT h.key) h.a h.b y) (hw : h.wd ≤ 5) (hn : (idT h.key).length ≤ 4) :
    (zs ++ [chRowT h.wd (idT h.key) h.a h.b], now) = (H.take (i + 1)).foldl stepT (r0, n0) ∧ (zs ++ [chRowT h.wd (idT h.key) h.a h.b]).length ≤ 41 + 2 * (i + 1) ∧ ∀ y ∈ zs ++ [chRowT h.wd (idT h.key) h.a h.b], y.length ≤ 80 := by
  refine ⟨?_, by simp only [List.length_append, List.length_singleton]; omega, fun q hq => ?_⟩
  · rw [List.take_add_one, hi, List.foldl_append, ← z2]
    show _ = stepT (zs, now) h
    rw [stepT, if_pos hne, hne]
  · rcases List.mem_append.mp hq with hq | hq
    · exact z4 q hq
    · rw [List.mem_singleton.mp hq, ← hc.eq]; exact hc.len hw hn
theorem strs_snoc2 {rvs : List Value} {rs : List Str} {x y z : Str} {tk tk2 : Tok} (h : StrsAre rvs rs) (e : x = y) : StrsAre (rvs ++ [.str z tk2, .str x tk]) (rs ++ [z] ++ [y]) := by
  subst e
  have := kct_snoc (y := x) (t := tk) (kct_snoc (y := z) (t := tk2) h)
  simpa only [List.append_assoc, List.cons_append, List.nil_append] using this

theorem word_51 : True := by
  (k_with "call ref" => (k_here; (with_reducible show wpAny _ _ (call (Value.ref 110) _) _ _ _); k_dflt (refine' Spec.use (change_row_spec _ _ _ _ _ _ _ _ _ _ _ _ _ ?hmzh ?hwzh ?hnzh) ?k1zh ?k2zh ?k3zh ?k4zh ?k5zh ?kKzh ?kdzh ?kuzh ?_; (case k1zh => k_asm); (case k2zh => k_asm); (case k3zh => k_asm); (case k4zh => k_asm); (case k5zh => k_asm); (case kKzh => first | exact rfl | assumption); (case kdzh => ktr_room); (case kuzh => ktr_units); (case hmzh => k_mem); (case hwzh => first | assumption | omega); (case hnzh => first | assumption | omega)); intro r9zq nw9zq h9zq tk9zq F9zq N9zq hr9zq; obtain ⟨e9zq, y9zq, t9zq, e9bzq, hc9zq⟩ := hr9zq; (have e8zq := e9zq.symm); (clear e9zq); (subst e8zq); (try subst e9bzq); (try dsimp only at N9zq); (try dsimp only); (try k_lt l9zq); (try k_sweep)))
  trivial
theorem text_spec (w : World) (news : List (Addr × Obj)) (wx dx vl cl wm : Addr) (es : List DictEntry) (n n1 n2 : Nat) (vvs cvs : List Value) (oW : Obj) (kvs : List (Str × Value)) (DD : List (PyData × PyData)) (sc : Str) (ts : Tok) (vs : List Vr) (H : List Hv)
    (hx : (wx, instObj 148 dx) ∈ news) (hd : (dx, dictOf es n) ∈ news) (hvl : (vl, W.listOf vvs.toArray n1) ∈ news) (hcl : (cl, W.listOf cvs.toArray n2) ∈ news) (hwm : (wm, oW) ∈ news)
    (q1 : getL (Str.ofString "scale") es = some (some (.str sc ts))) (q2 : getL (Str.ofString "variables") es = some (some (.ref vl))) (q3 : getL (Str.ofString "changes") es = some (some (.ref cl))) (q4 : getL (Str.ofString "widths") es = some (some (.ref wm)))
    (hV : VrAll news vvs vs) (hv4 : vs.length ≤ 4) (hvo : ∀ v ∈ vs, VrOk v) (hC : All2 (CgIn news) cvs H) (hH : H.length ≤ 9) (hHo : ∀ h ∈ H, CgOk h)
    (hW : oW.IsDictOf (PySem.strKind Challenge.rw_on0115_01.row.prog w) kvs) (hF : PyProof.V.FlatPairs PyData.str kvs DD) (hlk : ∀ h ∈ H, PySem.Spec.lookup (PyData.str (idT h.key)) DD = some (PyData.int h.wd)) (hlo : (wm == sysModules) = false) (hsc : sc.length ≤ 10) :
    Spec w 145 [.ref wx] 6 200 news (fun r news' => news' = news ∧ ∃ t, r = .str (dumpT sc vs H) t) := by
  refine' Spec.of_body (binds := [("self", .ref wx)]) ?ho ?hcd ?hb ?hl (by decide) ?c2 ?c3 ?c4 ?c5 ?_
  (case ho => k_dflt k_is)
  (case hcd => k_dflt k_is)
  (case hb => intro s; exact BindsTo.of_eq rfl)
  (case hl => exact locs rfl)
  (case c2 => exact rfl)
  (case c3 => exact rfl)
  (case c4 => exact rfl)
  (case c5 => decide)
  k_whole
  intro dp0 un0 gd0 cn0 cs0 L0 a0 ccd0 cl0 outer0 base0 g0 L1 h1 p0 loose0 mean0 mg0 mb0 s0 tk0 B0 F0 X0 N0 T0 hdp hun hlt
  (try dsimp only [List.reverse_cons, List.reverse_nil, List.nil_append, List.cons_append] at F0)
  have hOn : HoldOn := ⟨⟩
  (try k_fold)
  k_steps
  refine Hold.of ?_
  (rename News _ _ _ _ => eN)
  (rename Fr _ _ _ _ => eF)
  refine nameF eN fun rl D1 ws re r1 r2 r3 r4 => ?_
  subst r1 r2 r3 r4
  have hrl : @LT.lt Nat _ D1 rl := (show ∀ p ∈ (D1, _) :: news, @LT.lt Nat _ p.1 rl by assumption) _ (.head _)
  have hs : StrsAre ws (rowsD vs) := by assumption
  have hsl := hs.length
  obtain ⟨hr1, hr2⟩ := rowsD_ok hvo
  refine' kd_any (σ := List Value × List Str × Nat) (fun c => [(D1, W.listOf c.1.toArray c.2.2)]) ((rl, W.listOf ws.toArray re) :: news) (fun _ => []) (fun _ c => StrsAre c.1 c.2.1) []
    (fun j c => c.2.1 = [Str.ofString "$timescale " ++ sc ++ Str.ofString " $end"] ++ (rowsD vs).take j) (D1 :: rl :: news.map (·.1)) ([.str (Str.ofString "$timescale " ++ sc ++ Str.ofString " $end") _], [Str.ofString "$timescale " ++ sc ++ Str.ofString " $end"], 0)
    (by rfl) (.head _) eF eN ?hn1 (fun _ => rfl) (.cons _ _ .nil) (fun _ hp => nomatch hp) rfl ?turn1 ?done1
  case hn1 => kd_inAll
  case turn1 =>
    clear eF eN
    rintro ⟨qvs, qs, qe⟩ tl j v u h' tk' own hv1 hsep hoff q1 q2 F' N'
    obtain ⟨p3, tp3, rfl, hp3, hm3⟩ := strs_at hs hv1
    have hp4 := hr2 p3 hm3
    have hj1 := (List.getElem?_eq_some_iff.mp hv1).1
    dsimp only [kstB] at F' N' q1 q2
    simp only [List.cons_append, List.nil_append] at N'
    have q4 := q1.length
    have q5 : qs.length ≤ 1 + j := by rw [q2, List.length_append, List.length_take, List.length_singleton]; omega
    (try k_fold)
    refine gen_post fun S8 Q8 hS8 => ?_
    k_steps
    refine Hold.of ?_
    (rename Fr _ _ _ _ => eF)
    (rename News _ _ _ _ => eN)
    (try simp only [List.push_toArray] at eN)
    subst hS8
    refine' kd_end (σ := List Value × List Str × Nat) (tl := tl) ⟨_, _, _⟩ [] ?kS ?kF ?kN ?kn ?ko ?ka ?kb ?kw ?kk ?kr ?kf ?kp
    case kS => assumption
    case kF => exact eF
    case kN => exact eN
    case kn => kd_inAll
    case ko => (intro p hp; kst_mem)
    case ka => rfl
    case kb => exact List.forall_mem_nil _
    case kw => exact List.forall_mem_nil _
    case kk => exact fun _ hp => nomatch hp
    case kr => kst_same
    case kf => exact kct_snoc q1
    case kp => dsimp only; rw [q2, List.take_add_one, hp3, List.append_assoc]; rfl
  case done1 =>
    clear eF eN
    rintro ⟨qvs, qs, qe⟩ tl u h' tk' hoff q1 q2 F' N'
    rw [hsl, List.take_length] at q2
    replace N' := news_cut N'
    dsimp only [kstB] at F' N' q1 q2
    simp only [List.cons_append, List.nil_append] at N'
    have q4 := q1.length
    have q5 : qs.length ≤ 40 := by rw [q2, List.length_append, List.length_singleton]; omega
    (try k_fold)
    k_steps
    refine Hold.of ?_
    (rename News _ _ _ _ => eN)
    (rename Fr _ _ _ _ => eF)
    (try simp only [List.push_toArray] at eN)
    refine' kd_anyT (σ := TSt) (fun c => [(D1, W.listOf c.rvs.toArray c.re)]) ((rl, W.listOf ws.toArray re) :: news) (fun c => [(Str.ofString "now", .int c.now c.nt)]) (fun _ c => StrsAre c.rvs c.rows) [Str.ofString "name", Str.ofString "value"]
      (fun i c => (c.rows, c.now) = (H.take i).foldl stepT (qs ++ [Str.ofString "$enddefinitions $end"], -1) ∧ c.rows.length ≤ 41 + 2 * i ∧ ∀ y ∈ c.rows, y.length ≤ 80) (D1 :: rl :: news.map (·.1)) ⟨qvs ++ [.str (Str.ofString "$enddefinitions $end") ?tA], qs ++ [Str.ofString "$enddefinitions $end"], _, -1, ?tB⟩ (Str.ofString "time")
      (by rfl) (.tail _ hcl) eF eN ?hn2 (fun _ => rfl) ?hf2 ?hk2 ?hp2 ?turn2 ?done2
    case hn2 => kd_inAll
    case hf2 => exact kct_snoc q1
    case hk2 => exact List.forall_mem_cons.mpr ⟨by with_unfolding_all rfl, List.forall_mem_nil _⟩
    case hp2 =>
      refine ⟨rfl, by dsimp only; rw [List.length_append, List.length_singleton]; omega, fun y hy => ?_⟩
      rcases List.mem_append.mp hy with hy | hy
      · rw [q2] at hy
        rcases List.mem_append.mp hy with hy | hy
        · rw [List.mem_singleton.mp hy, Str.length_append, Str.length_append, show (Str.ofString "$timescale ").length = 11 by decide +kernel, show (Str.ofString " $end").length = 5 by decide +kernel]; omega
        · exact hr2 y hy
      · rw [List.mem_singleton.mp hy]; decide +kernel
    case turn2 =>
      clear eF eN
      rintro ⟨zvs, zs, ze, now, nt⟩ tl i v u ⟨h', g', d', tk', o'⟩ own hv' hsep hoff z1 ⟨z2, z3, z4⟩ F' N'
      obtain ⟨hg, hgi, tp, tq, n8, n9, t1, t2, t3, t4, t5, rfl, hmt, hmq⟩ := hC.at hv'
      have hgm := List.mem_of_getElem? hgi
      obtain ⟨hn0, hn1, hw1, hw5⟩ := hHo hg hgm
      have hlk1 := hlk hg hgm
      have hil := idT_len hg.key
      have hi9 := (List.getElem?_eq_some_iff.mp hgi).1
      dsimp only [kstB] at F' N' z1 z2 z3 z4 ⊢
      simp only [List.cons_append, List.nil_append] at N'
      have z5 := z1.length
      (try k_fold)
      generalize hS9 : KdS _ _ _ _ _ _ _ _ _ _ = S9
      k_steps
      all_goals refine Hold.of ?_
      all_goals (rename Fr _ _ _ _ => eF)
      all_goals (rename News _ _ _ _ => eN)
      all_goals (try simp only [List.push_toArray] at eN)
      all_goals subst hS9
      all_goals (try dsimp only)
      · refine' kd_end (tl := tl) ⟨_, zs ++ [stampT hg.now] ++ [chRowT hg.wd (idT hg.key) hg.a hg.b], _, _, _⟩ [] ?kS ?kF ?kN ?kn ?ko ?ka ?kb ?kw ?kk ?kr ?kf ?kp
        case kS => assumption
        case kF => exact eF
        case kN => exact eN
        case kn => kd_inAll
        case ko => (intro p hp; kst_mem)
        case ka => rfl
        case kb => exact List.forall_mem_nil _
        case kw => exact List.forall_mem_nil _
        case kk => exact List.forall_mem_cons.mpr ⟨by with_unfolding_all rfl, List.forall_mem_nil _⟩
        case kr => kst_same
        case kf => exact strs_snoc2 z1 (ChRow.eq (by assumption))
        case kp => exact chg_new hgi z2 (by assumption) z3 z4 (stampT_len hn0 hn1) (by assumption) hw5 hil
      · refine' kd_end (tl := tl) ⟨_, zs ++ [chRowT hg.wd (idT hg.key) hg.a hg.b], _, _, _⟩ [] ?kS ?kF ?kN ?kn ?ko ?ka ?kb ?kw ?kk ?kr ?kf ?kp
        case kS => assumption
        case kF => exact eF
        case kN => exact eN
        case kn => kd_inAll
        case ko => (intro p hp; kst_mem)
        case ka => rfl
        case kb => exact List.forall_mem_nil _
        case kw => exact List.forall_mem_nil _
        case kk => exact List.forall_mem_cons.mpr ⟨by with_unfolding_all rfl, List.forall_mem_nil _⟩
        case kr => kst_same
        case kf => exact strs_snoc z1 (ChRow.eq (by assumption))
        case kp => exact chg_old hgi z2 (by assumption) z3 z4 (by assumption) hw5 hil
    case done2 =>
      clear eF eN
      rintro ⟨zvs, zs, ze, now, nt⟩ tl u h' tk' hoff z1 ⟨z2, z3, z4⟩ F' N'
      rw [hC.length, List.take_length] at z2
      dsimp only [kstB] at F' N' z1 z2 z3 z4
      simp only [List.cons_append, List.nil_append] at N'
      have z5 := z1.length
      have hcl5 := hC.length
      have hw : (zs.map (·.length)).sum + zs.length ≤ 1048576 := by
        have := sum_len z4
        omega
      have hj := join_len_n (k := 20000) (ys := zs) (by have := sum_len z4; omega)
      (try k_fold)
      k_steps
      walk_at "mine pure"
      refine ⟨_, congrArg (fun z => Value.str z _) ?_⟩
      rw [dumpT, ← q2, ← z2]
theorem word_52 : True := by
  (k_with "call ref" => (k_here; (with_reducible show wpAny _ _ (call (Value.ref 145) _) _ _ _); k_dflt (refine' Spec.use (text_spec _ _ _ _ _ _ _ _ _ _ _ _ _ _ _ _ _ _ _ _ ?hxzh ?hdzh ?hvlzh ?hclzh ?hwmzh ?q1zh ?q2zh ?q3zh ?q4zh ?hVzh ?hv4zh ?hvozh ?hCzh ?hHzh ?hHozh ?hWzh ?hFzh ?hlkzh ?hlozh ?hsczh) ?k1zh ?k2zh ?k3zh ?k4zh ?k5zh ?kKzh ?kdzh ?kuzh ?_; (case k1zh => k_asm); (case k2zh => k_asm); (case k3zh => k_asm); (case k4zh => k_asm); (case k5zh => k_asm); (case kKzh => first | exact rfl | assumption); (case kdzh => ktr_room); (case kuzh => ktr_units); (case hxzh => k_mem); (case hdzh => k_mem); (case q1zh => assumption); (case q2zh => assumption); (case q3zh => assumption); (case q4zh => assumption); (case hvlzh => k_mem); (case hclzh => k_mem); (case hwmzh => k_mem); (case hVzh => assumption); (case hv4zh => assumption); (case hvozh => assumption); (case hCzh => assumption); (case hHzh => assumption); (case hHozh => assumption); (case hWzh => assumption); (case hFzh => assumption); (case hlkzh => assumption); (case hlozh => assumption); (case hsczh => decide +kernel)); intro r9zq nw9zq h9zq tk9zq F9zq N9zq hr9zq; obtain ⟨e9zq, t9zq, e9bzq⟩ := hr9zq; (have e8zq := e9zq.symm); (clear e9zq); (subst e8zq); (try subst e9bzq); (try dsimp only at N9zq); (try dsimp only); (try k_lt l9zq); (try k_sweep)))
  trivial

theorem Spec.of_bodyD {w : World} {f : Addr} {args : List Value} {d u : Nat} {news : List (Addr × Obj)} {Ret : Value → List (Addr × Obj) → Prop}
    {name qual : Str} {params : Arguments} {body : List Stmt} {scope : Scope} {dV kV doc pm cdv ct oc : Value} {an od : Option Addr} {osl : Array (Option Value)} {binds : List (Str × Value)}
    (ho : (pre.heap_1 w.params).lookup f = some ⟨oc, od, .func (fnOf name qual params body scope dV kV doc pm an cdv ct), osl⟩) (hcd : codeIn (pre.heap_1 w.params) cdv qual = true)
    (hbind : ∀ s : Shared, (pre.heap_1 w.params).In s.heap → BindsTo s (fnOf name qual params body scope dV kV doc pm an cdv ct) ⟨args, []⟩ binds) (hloc : ∀ y ∈ binds, scope.names.lookup y.1 = some .local)
    (h1 : 1 ≤ d)
    (hco : scope.isCoroutine = false) (hgen : scope.isGenerator = false) (hk : scope.kind = .function) (hcell : ∀ x ∈ scope.names, x.2 ≠ .cell)
    (h : ∀ (dp un : Nat) (gd : Option (List Code)) (cn : Str) (cs : Scope) (L a : Addr) (ccd : Value) (cl : List (Str × Addr)) (outer : List Env) (base g : Heap) (L' : Addr) (h₁ : Heap)
      (p : Program) (loose : List Str) (mean : ExcName → Option Value) (mg mb : Str → Option Value) (s : Shared) (tk : Nat),
      Below (ktrTop dp un gd cn cs L a ccd cl outer) base (envX cn cs L a ccd cl :: outer) g → Fr g L' h₁ (fun y => binds.reverse.lookup y) → (pre.heap_1 w.params).In g → News g L' h₁ news → Top p loose mean mg mb g →
      dp + d < recursionLimit → un + u < cLine → (∀ p ∈ news, p.1 < L') →
      wpAny (model Challenge.rw_on0115_01.row.prog w) ((ktrTop dp un gd cn cs L a ccd cl outer).deeper (envOf qual scope L' f cdv)) (execs body (envOf qual scope L' f cdv))
        (fun fl s' => Back s g Ret (match fl with | .ret v => v | _ => .none) s') (fun _ _ => False) { s with heap := h₁, toks := tk }) :
    Spec w f args d u news Ret := by
  k_whole
  intro dp un gd cn cs a ccd cl outer A₀ base h₀ L m p loose mean mg mb s Q E B F X N T hck hd' hu hret
  refine wpAny_call ?_
  have hA : (ktrTop dp un gd cn cs L a ccd cl outer).frames = some (envX cn cs L a ccd cl :: outer) := rfl
  refine callX_plain (env := envX cn cs L a ccd cl) (cl := []) B F N T.nolimit hA rfl hck ((X.keeps F.keep) _ _ ho) rfl (codeRec_of (X.keeps F.keep) hcd) (by show dp < recursionLimit; omega) (hbind s (X.keeps F.keep)) hloc
    (fun g L' h₁ FG F' N' B' st hlt => ?_) hcell hco hgen hk
  refine wpAny_mono (h dp un gd cn cs L a ccd cl outer base g L' h₁ p loose mean mg mb s _ B' F' (X.keeps st) N' (T.keeps st) hd' hu hlt) ?_ (fun _ _ x => x.elim)
  rintro fl s' ⟨L₂, m', news', h', tk', rfl, F₂, N₂, hr⟩
  exact ⟨L₂, m', news', F₂, N₂, fun F₃ N₃ => hret _ news' h' tk' F₃ N₃ hr⟩

/-- the kind that the dump names -/
def kdOf (g : Sg) : Str := if g.kind = Str.ofString "reg" then Str.ofString "reg" else Str.ofString "wire"
/-- the variable of a signal -/
def vrOf (i : Nat) (g : Sg) : Vr := ⟨g.path, (Txt.split g.path (Str.ofString ".")).dropLast, (Txt.split g.path (Str.ofString ".")).getLastD (Str.ofString ""), g.wd, kdOf g, idT i⟩
def vrsOf (sg : List Sg) : List Vr := sg.mapIdx vrOf
theorem vrs_take {sg : List Sg} {i : Nat} {g : Sg} (h : sg[i]? = some g) : vrsOf (sg.take (i + 1)) = vrsOf (sg.take i) ++ [vrOf i g] := by
  have hi := (List.getElem?_eq_some_iff.mp h).1
  unfold vrsOf
  rw [List.take_add_one, h]
  show List.mapIdx vrOf (sg.take i ++ [g]) = _
  rw [List.mapIdx_concat, List.length_take, Nat.min_eq_left (Nat.le_of_lt hi)]
theorem vrOf_ok {i : Nat} {g : Sg} (h : SgOk i g) (hi : i < 4) : VrOk (vrOf i g) := by
  obtain ⟨ws, la, hP⟩ := parts_of h hi
  have e := hP.eq
  refine ⟨?_, ?_, h.lo, h.hi, idT_len _⟩
  · show Parts g.path (Txt.split g.path (Str.ofString ".")).dropLast ((Txt.split g.path (Str.ofString ".")).getLastD (Str.ofString ""))
    rw [e, List.dropLast_concat, List.getLastD_concat]
    exact hP
  · show kdOf g = _ ∨ kdOf g = _
    unfold kdOf
    split
    · exact .inr rfl
    · exact .inl rfl
theorem vrs_ok {sg : List Sg} (h : SgsOk sg) (h4 : sg.length ≤ 4) : ∀ v ∈ vrsOf sg, VrOk v := by
  intro v hv
  obtain ⟨i, hi, rfl⟩ := List.mem_mapIdx.mp hv
  exact vrOf_ok (h.get (List.getElem?_eq_getElem hi)) (by omega)
theorem vrs_len (sg : List Sg) : (vrsOf sg).length = sg.length := List.length_mapIdx
theorem idT_inj {i j : Nat} (hi : i < 4) (hj : j < 4) (h : idT (i : Int) = idT (j : Int)) : i = j := by
  have ei : i = 0 ∨ i = 1 ∨ i = 2 ∨ i = 3 := by omega
  have ej : j = 0 ∨ j = 1 ∨ j = 2 ∨ j = 3 := by omega
  rcases ei with rfl | rfl | rfl | rfl <;> rcases ej with rfl | rfl | rfl | rfl <;> first | rfl | exact absurd h (by decide +kernel)
/-- what the writer knows of the widths -/
def WdK (sg : List Sg) (i : Nat) (D : List (PyData × PyData)) : Prop := D.length ≤ i ∧ ∀ (j : Nat) (g : Sg), j < i → sg[j]? = some g → PySem.Spec.lookup (PyData.str (idT (j : Int))) D = some (PyData.int g.wd)
def NmK (i : Nat) (D : List (PyData × PyData)) : Prop := D.length ≤ i ∧ ∀ j : Nat, j < i → PySem.Spec.lookup (PyData.int (j : Int)) D = some (PyData.str (idT (j : Int)))
theorem WdK.snoc {sg : List Sg} {i n : Nat} {D : List (PyData × PyData)} {g : Sg} (h : WdK sg i D) (hg : sg[i]? = some g) (hi : i < 4) (hn : n = i) : WdK sg (i + 1) (PyProof.V.putD (PyData.str (idT (n : Int))) (PyData.int g.wd) D) := by
  subst hn
  refine ⟨Nat.le_trans (putD_le _ _ D) (Nat.succ_le_succ h.1), fun j g' hj hg' => ?_⟩
  rw [lookup_putK PyProof.V.keyEnc_str]
  split
  · rename_i e
    have := idT_inj (by omega) hi e
    subst this
    rw [hg] at hg'
    cases hg'; rfl
  · rename_i e
    exact h.2 j g' (by rcases Nat.lt_succ_iff_lt_or_eq.mp hj with h | h; exact h; exact absurd (by rw [h]) e) hg'
theorem NmK.snoc {i n : Nat} {D : List (PyData × PyData)} (h : NmK i D) (hn : n = i) : NmK (i + 1) (PyProof.V.putD (PyData.int (i : Int)) (PyData.str (idT (n : Int))) D) := by
  subst hn
  refine ⟨Nat.le_trans (putD_le _ _ D) (Nat.succ_le_succ h.1), fun j hj => ?_⟩
  rw [lookup_putK PyProof.V.keyEnc_int]
  split
  · rename_i e; rw [e]
  · rename_i e
    exact h.2 j (by rcases Nat.lt_succ_iff_lt_or_eq.mp hj with h | h; exact h; exact absurd (by rw [h]) e)
theorem HvsOk.lo {sg : List Sg} {H : List Hv} {m : Int} (h : HvsOk sg H m) : 0 ≤ m ∧ ∀ x ∈ H, 0 ≤ x.now ∧ x.now ≤ m ∧ HvOk sg x := by
  induction h with
  | nil => exact ⟨Int.le_refl _, fun _ hx => nomatch hx⟩
  | snoc hs hm hv ih =>
    refine ⟨by omega, fun x hx => ?_⟩
    rcases List.mem_append.mp hx with hx | hx
    · obtain ⟨a, b, c⟩ := ih.2 x hx; exact ⟨a, by omega, c⟩
    · rw [List.mem_singleton.mp hx]; exact ⟨by omega, Int.le_refl _, hv⟩
/-- the times do not fall -/
theorem HvsOk.rise {sg : List Sg} {H : List Hv} {m : Int} (h : HvsOk sg H m) : ∀ {i j : Nat} {x y : Hv}, i ≤ j → H[i]? = some x → H[j]? = some y → x.now ≤ y.now := by
  induction h with
  | nil => intro i j x y _ hx; simp at hx
  | @snoc hs m z hs' hm hv ih =>
    intro i j x y hij hx hy
    by_cases hj : j < hs.length
    · rw [List.getElem?_append_left hj] at hy
      rw [List.getElem?_append_left (by omega)] at hx
      exact ih hij hx hy
    · have hj2 := (List.getElem?_eq_some_iff.mp hy).1
      rw [List.length_append, List.length_singleton] at hj2
      have ej : j = hs.length := by omega
      subst ej
      have e : z = y := by simpa using hy
      subst e
      by_cases hi : i < hs.length
      · rw [List.getElem?_append_left hi] at hx
        have := (hs'.lo.2 x (List.mem_of_getElem? hx)).2.1
        omega
      · have ei : i = hs.length := by omega
        subst ei
        have e : z = x := by simpa using hx
        rw [e]; exact Int.le_refl _
section
variable {prog : Program} {w : World} {A : Around} {E : Value → Shared → Prop} {s : Shared} {h₀ : Heap} {L : Addr} {news led : List (Addr × Obj)} {value slice : PySem.Expr} {l : Addr} {svs : List Value} {sg : List Sg} {n : Nat} {k : Int} {u : Tok} {g : Sg} {Q : Value → Shared → Prop}
theorem sub_sigG (N : News h₀ L s.heap news) (hm : (l, W.listOf svs.toArray n) ∈ news) (hS : SigAll led svs sg) (hg : sg[k.toNat]? = some g) (h0 : 0 ≤ k ∧ k < 100)
    (h : ∀ (x dx : Addr) (es : List DictEntry) (n : Nat) (t1 t2 t3 : Tok), (x, instObj 233 dx) ∈ led → (dx, dictOf es n) ∈ led → getL (Str.ofString "path") es = some (some (.str g.path t1)) → getL (Str.ofString "kind") es = some (some (.str g.kind t2)) →
      getL (Str.ofString "width") es = some (some (.int g.wd t3)) → getL (Str.ofString "is_net") es = some none → Q (.ref x) s)
    (hs : subscripted slice false (.ref l) (.int k u) = operate [.ref l, .int k u] (getItem (.ref l) (.int k u)) := by with_unfolding_all rfl) :
    wpAny (model prog w) A (subscriptTail value slice (.ref l) (.int k u)) Q E s := by
  have hL : s.heap.IsList l svs.toArray := News.isList N hm
  obtain ⟨v, g', e1, e2, x, dx, es, n, t1, t2, t3, t4, rfl, m1, m2, q1, q2, q3, q4⟩ := hS.get k.toNat (List.getElem?_eq_some_iff.mp hg).1
  rw [hg] at e2
  cases e2
  exact tail_any hL.typeIs slot_list_getitem.lookup (wpAny_getItem_list hL h0.1 (by omega) (by simpa using e1) (h x dx es n t1 t2 t3 m1 m2 q1 q2 q3 q4)) hs
end
theorem nameV {P : Prop} {h₀ h : Heap} {L a1 a2 a3 a4 a5 a6 : Addr} {o1 o2 o3 o4 o5 : Obj} {es : List DictEntry} {n : Nat} {rs : List (Addr × Obj)} (_N : News h₀ L h ((a1, o1) :: (a2, o2) :: (a3, o3) :: (a4, o4) :: (a5, o5) :: (a6, dictOf es n) :: rs))
    (k : ∀ (nm cl wm vl wx dx : Addr) (oN oW : Obj) (es' : List DictEntry) (n' : Nat), nm = a1 → cl = a2 → wm = a3 → vl = a4 → wx = a5 → dx = a6 → oN = o1 → oW = o3 → es' = es → n' = n → P) : P := k a1 a2 a3 a4 a5 a6 o1 o3 es n rfl rfl rfl rfl rfl rfl rfl rfl rfl rfl
structure D1 where
  oN : Obj
  kn : List (Int × Value)
  DN : List (PyData × PyData)
  oW : Obj
  kw : List (Str × Value)
  DW : List (PyData × PyData)
  vvs : List Value
  ve : Nat
  vr : List Vr
structure D2 where
  es : List DictEntry
  n : Nat
  cvs : List Value
  ce : Nat
  now : Int
  nt : Tok
  hs : List Hv
theorem int_range {wvs : List Value} {k i : Nat} {v : Value} (h : IntsAre wvs ((List.range k).map fun (i : Nat) => (i : Int))) (hv : wvs[i]? = some v) : ∃ t, v = .int (i : Int) t ∧ i < k := by
  obtain ⟨n, t, e1, e2⟩ := h.at i v hv
  have hi := (List.getElem?_eq_some_iff.mp hv).1
  have hl := h.length
  rw [List.length_map, List.length_range] at hl
  rw [List.getElem?_map, List.getElem?_range (by omega)] at e2
  cases e2
  exact ⟨t, e1, by omega⟩
theorem HvAll.at {led : List (Addr × Obj)} {xs : List Value} {vs : List Hv} (h : HvAll led xs vs) : ∀ {i : Nat} {x : Value}, xs[i]? = some x → ∃ v, vs[i]? = some v ∧ HvIn led x v := by
  induction h with
  | nil => intro i x e; simp at e
  | @snoc xs vs x v hs h ih =>
    intro i y e
    have el := hs.length
    by_cases hc : i < xs.length
    · rw [List.getElem?_append_left hc] at e
      obtain ⟨v', h1, h2⟩ := ih e
      exact ⟨v', by rw [List.getElem?_append_left (by omega)]; exact h1, h2⟩
    · have hi : i < (xs ++ [x]).length := (List.getElem?_eq_some_iff.mp e).1
      have hc2 : i = xs.length := by rw [List.length_append, List.length_singleton] at hi; omega
      subst hc2
      have ey : x = y := by simpa using e
      exact ⟨v, by rw [el]; exact List.getElem?_concat_length, ey ▸ h⟩
theorem nameA {P : Prop} {h₀ h : Heap} {L a : Addr} {o : Obj} {rs : List (Addr × Obj)} (_N : News h₀ L h ((a, o) :: rs)) (k : ∀ (a' : Addr) (o' : Obj), a' = a → o' = o → P) : P := k a o rfl rfl
theorem vrIn_mk {led : List (Addr × Obj)} {tp : Addr} {n : Nat} {g : Sg} {i m : Nat} {kd : Str} {t1 t2 t3 t4 : Tok} {o : Obj} (h : (tp, o) ∈ led) (ho : o = tupObj [.str g.path t1, .int g.wd t2, .str kd t3, .str (idT (m : Int)) t4] n) (hk : kd = kdOf g) (hm : m = i) : VrIn led (.ref tp) (vrOf i g) := by
  subst hk hm ho
  exact ⟨tp, n, t1, t2, t3, t4, rfl, h⟩
theorem kdOf_reg {g : Sg} (h : (g.kind == Str.ofString "reg") = true) : Str.ofString "reg" = kdOf g := by
  have e : g.kind = Str.ofString "reg" := by simpa using h
  unfold kdOf; rw [if_pos e]
theorem kdOf_wire {g : Sg} (h : (g.kind == Str.ofString "reg") = false) : Str.ofString "wire" = kdOf g := by
  have e : g.kind ≠ Str.ofString "reg" := by simpa using h
  unfold kdOf; rw [if_neg e]
/-- what the writer's dict holds -/
structure EsK (es : List DictEntry) (vl cl wm : Addr) (ts : Tok) (now : Int) (nt : Tok) : Prop where
  q1 : getL (Str.ofString "scale") es = some (some (.str (Str.ofString "10ps") ts))
  q2 : getL (Str.ofString "variables") es = some (some (.ref vl))
  q3 : getL (Str.ofString "changes") es = some (some (.ref cl))
  q4 : getL (Str.ofString "widths") es = some (some (.ref wm))
  q5 : getL (Str.ofString "now") es = some (some (.int now nt))
  q7 : getL (Str.ofString "change") es = some none
  q8 : getL (Str.ofString "text") es = some none
theorem EsK.set {es es' : List DictEntry} {vl cl wm : Addr} {ts nt t1 : Tok} {now time : Int} (h : EsK es vl cl wm ts now nt) (d : Dset es' es (Str.ofString "now") (.int time t1)) : EsK es' vl cl wm ts time t1 :=
  ⟨d.miss (by decide +kernel) h.q1, d.miss (by decide +kernel) h.q2, d.miss (by decide +kernel) h.q3, d.miss (by decide +kernel) h.q4, d.hit, d.miss (by decide +kernel) h.q7, d.miss (by decide +kernel) h.q8⟩
theorem cgIn_mk {led : List (Addr × Obj)} {tp tq : Addr} {n1 n2 : Nat} {t1 t2 t3 t4 t5 : Tok} {g : Hv} {o : Obj} (h : (tp, o) ∈ led) (ho : o = tupObj [.int g.now t1, .str (idT g.key) t2, .ref tq] n1) (h2 : (tq, tupObj [.int g.wd t3, .int g.a t4, .int g.b t5] n2) ∈ led) : CgIn led (.ref tp) g := by
  subst ho
  exact ⟨tp, tq, n1, n2, t1, t2, t3, t4, t5, rfl, h, h2⟩
theorem take_snoc {α : Type} {H : List α} {i : Nat} {g : α} (h : H[i]? = some g) : H.take i ++ [g] = H.take (i + 1) := by rw [List.take_add_one, h]; rfl
local macro_rules | `(tactic| ktr_units) => `(tactic| (have hcL9 := cLine_is; (try simp only [units_under_make, units_in1, units_deeper, Around.mark_units, units_caller]); (try dsimp only [ktrTop]); omega))
theorem word_53 : True := by
  (k_with "setItem ref int" => (k_here; k_dflt (refine' setItem_K PyProof.V.same_int (intKind_is _ _ _ _) ?vzh ?Fzh ?Nzh ?Uzh ?dzh ?fzh ?_ ?zzh; (case Fzh => k_asm); (case Nzh => k_asm); (case Uzh => k_updF); (case dzh => k_asm); (case fzh => k_asm); (case zzh => (rw [PySem.sizeLine_eq]; omega)); (case vzh => k_flat)); intro h'zq o'zq F'zq N'zq hd'zq hf'zq; (try dsimp only at N'zq); (try k_sweep)))
  trivial
theorem word_54 : True := by
  (k_with "subscriptTail" => (k_here; (with_reducible show wpAny _ _ (subscriptTail _ _ (Value.ref _) (Value.int _ _)) _ _ _); k_dflt (refine' sub_sigG ?Nzh ?mzh ?szh ?gzh ?azh ?_; (case Nzh => k_asm); (case mzh => k_mem); (case szh => assumption); (case gzh => assumption); (case azh => omega)); intro x8zq dx8zq es8zq n8zq t8zq t7zq t6zq hx8zq hd8zq qp8zq qk8zq qw8zq qn8zq))
  trivial
theorem word_55 : True := by
  (k_with "call ref" => (k_here; (with_reducible show wpAny _ _ (call (Value.ref 131) _) _ _ _); k_dflt (refine' Spec.use (declare_spec _ _ _ _ _ _ _ _ _ _ _ _ _ _ _ _ _ _ _ _ _ ?hozh ?hr1zh ?hr2zh ?hPzh ?hkdzh ?hwzh ?hvzh ?q1zh ?q2zh ?hWzh ?hFzh ?hDzh) ?k1zh ?k2zh ?k3zh ?k4zh ?k5zh ?kKzh ?kdzh ?kuzh ?_; (case k1zh => k_asm); (case k2zh => k_asm); (case k3zh => k_asm); (case k4zh => k_asm); (case k5zh => k_asm); (case kKzh => first | exact rfl | assumption); (case kdzh => ktr_room); (case kuzh => ktr_units); (case hozh => (exact (by assumption))); (case hr1zh => k_all); (case hr2zh => k_all); (case hPzh => assumption); (case hkdzh => first | exact .inl rfl | exact .inr rfl); (case hwzh => omega); (case hvzh => omega); (case q1zh => assumption); (case q2zh => assumption); (case hWzh => assumption); (case hFzh => assumption); (case hDzh => omega)); intro r9zq nw9zq h9zq tk9zq F9zq N9zq hr9zq; obtain ⟨tp9zq, oW9zq, t9zq, e9zq, e9bzq, hW9zq, hF9zq, l9zq⟩ := hr9zq; (have e8zq := e9zq.symm); (clear e9zq); (subst e8zq); (try subst e9bzq); (try dsimp only at N9zq); (try dsimp only); (try k_lt l9zq); (try k_sweep)))
  trivial
theorem word_56 : True := by
  (k_with "call ref" => (k_here; (with_reducible show wpAny _ _ (call (Value.ref 138) _) _ _ _); k_dflt (refine' Spec.use (change_spec _ _ _ _ _ _ _ _ _ _ _ _ _ _ _ _ _ _ _ _ _ _ _ _ _ _ _ _ ?hozh ?hr1zh ?hr2zh ?hvzh ?hwmzh ?hczh ?hDzh ?hkzh ?q1zh ?q2zh ?q3zh ?htzh ?hWzh ?hFzh ?hlozh ?hlzh) ?k1zh ?k2zh ?k3zh ?k4zh ?k5zh ?kKzh ?kdzh ?kuzh ?_; (case k1zh => k_asm); (case k2zh => k_asm); (case k3zh => k_asm); (case k4zh => k_asm); (case k5zh => k_asm); (case kKzh => first | exact rfl | assumption); (case kdzh => ktr_room); (case kuzh => ktr_units); (case q1zh => assumption); (case q2zh => assumption); (case q3zh => assumption); (case hozh => (exact (by assumption))); (case hr1zh => k_all); (case hr2zh => k_all); (case hvzh => k_mem); (case hwmzh => k_mem); (case hczh => omega); (case hDzh => assumption); (case hkzh => omega); (case htzh => omega); (case hWzh => assumption); (case hFzh => assumption); (case hlozh => assumption); (case hlzh => assumption)); intro r9zq nw9zq h9zq tk9zq F9zq N9zq hr9zq; obtain ⟨tp9zq, es9zq, n9zq, e9zq, e9bzq, dc9zq, ds9zq, l9zq⟩ := hr9zq; (have e8zq := e9zq.symm); (clear e9zq); (subst e8zq); (try subst e9bzq); (try dsimp only at N9zq); (try dsimp only); (try k_lt l9zq); (try k_sweep)))
  trivial

theorem dump_text_spec (w : World) (news : List (Addr × Obj)) (d : Addr) (sg : List Sg) (H : List Hv) (m : Int) (t : Tok) (hW : WorldIn news d sg H) (h1 : 1 ≤ sg.length) (h4 : sg.length ≤ 4) (hS : SgsOk sg) (hH : H.length ≤ 9) (hHo : HvsOk sg H m) (hm : m ≤ 30) :
    Spec w 174 [.ref d, .str (Str.ofString "10ps") t] 8 400 news (fun r news' => news' = news ∧ ∃ t, r = .str (dumpT (Str.ofString "10ps") (vrsOf sg) H) t) := by
  obtain ⟨dd, sl, wl, hl, es, n, n1, n2, n3, svs, wvs, hvs, md, mdd, msl, mwl, mhl, qs, qw, qh, qd, hSA, hWI, hHA⟩ := hW
  refine' Spec.of_bodyD (binds := [("kernel", .ref d), ("scale", .str (Str.ofString "10ps") t)]) ?ho ?hcd ?hb ?hl (by decide) ?c2 ?c3 ?c4 ?c5 ?_
  (case ho => k_dflt k_is)
  (case hcd => k_dflt k_is)
  (case hb => intro s hX; exact BindsTo.of_defaults rfl (hX _ _ rfl) rfl rfl rfl)
  (case hl => exact locs rfl)
  (case c2 => exact rfl)
  (case c3 => exact rfl)
  (case c4 => exact rfl)
  (case c5 => decide)
  k_whole
  intro dp0 un0 gd0 cn0 cs0 L0 a0 ccd0 cl0 outer0 base0 g0 L1 h1 p0 loose0 mean0 mg0 mb0 s0 tk0 B0 F0 X0 N0 T0 hdp hun hlt
  (try dsimp only [List.reverse_cons, List.reverse_nil, List.nil_append, List.cons_append] at F0)
  have hOn : HoldOn := ⟨⟩
  (try k_fold)
  k_steps
  refine Hold.of ?_
  (rename News _ _ _ _ => eN)
  (rename Fr _ _ _ _ => eF)
  refine nameV eN fun nm cl wm vl wx dx oN oW es0 n0 r1 r2 r3 r4 r5 r6 r7 r8 r9 r10 => ?_
  subst r1 r2 r3 r4 r5 r6 r7 r8
  have q1 : getL (Str.ofString "scale") es0 = some (some (.str (Str.ofString "10ps") t)) := by rw [r9]; k_get
  have q2 : getL (Str.ofString "variables") es0 = some (some (.ref vl)) := by rw [r9]; k_get
  have q3 : getL (Str.ofString "changes") es0 = some (some (.ref cl)) := by rw [r9]; k_get
  have q4 : getL (Str.ofString "widths") es0 = some (some (.ref wm)) := by rw [r9]; k_get
  have q5 : ∃ t', getL (Str.ofString "now") es0 = some (some (.int (-1) t')) := ⟨_, by rw [r9]; k_get⟩
  have q6 : getL (Str.ofString "declare") es0 = some none := by rw [r9]; k_get
  have q7 : getL (Str.ofString "change") es0 = some none := by rw [r9]; k_get
  have q8 : getL (Str.ofString "text") es0 = some none := by rw [r9]; k_get
  have q9 : Dic es0 5 := by rw [r9]; assumption
  have hN1 : oN.IsDictOf (intKind Challenge.rw_on0115_01.row.prog w) [] := by assumption
  have hW1 : oW.IsDictOf (PySem.strKind Challenge.rw_on0115_01.row.prog w) [] := by assumption
  have hlo : (wm == sysModules) = false := by assumption
  have hlw := hWI.length
  rw [List.length_map, List.length_range] at hlw
  have od := Hold.of (show @LT.lt Nat _ dx wx ∧ (@LT.lt Nat _ wx vl ∧ @LT.lt Nat _ dx vl) ∧ (@LT.lt Nat _ vl wm ∧ @LT.lt Nat _ wx wm ∧ @LT.lt Nat _ dx wm) ∧ (@LT.lt Nat _ wm cl ∧ @LT.lt Nat _ vl cl ∧ @LT.lt Nat _ wx cl ∧ @LT.lt Nat _ dx cl) ∧
    (@LT.lt Nat _ cl nm ∧ @LT.lt Nat _ wm nm ∧ @LT.lt Nat _ vl nm ∧ @LT.lt Nat _ wx nm ∧ @LT.lt Nat _ dx nm) by omega)
  have al1 : ∀ p ∈ news, @LT.lt Nat _ p.1 dx := by assumption
  repeat ((with_reducible (rename And _ _ => hc9)); clear hc9)
  obtain ⟨o1, ⟨o2, o3⟩, ⟨o4, o5, o6⟩, ⟨o7, o8, o9, o10⟩, o11, o12, o13, o14, o15⟩ := od
  have od1 : @LT.lt Nat _ dx wx ∧ @LT.lt Nat _ dx vl ∧ @LT.lt Nat _ wx vl ∧ @LT.lt Nat _ dx wm ∧ @LT.lt Nat _ wx wm ∧ @LT.lt Nat _ vl wm := ⟨o1, o3, o2, o6, o5, o4⟩
  have al2 : ∀ p ∈ news, @LT.lt Nat _ p.1 vl := fun p hp => Nat.lt_trans (al1 p hp) o3
  have al3 : ∀ p ∈ news, @LT.lt Nat _ p.1 wm := fun p hp => Nat.lt_trans (al1 p hp) o6
  have al4 : ∀ p ∈ news, @LT.lt Nat _ p.1 cl := fun p hp => Nat.lt_trans (al1 p hp) o10
  have al5 : ∀ p ∈ news, @LT.lt Nat _ p.1 nm := fun p hp => Nat.lt_trans (al1 p hp) o15
  have al6 : ∀ p ∈ news, @LT.lt Nat _ p.1 wx := fun p hp => Nat.lt_trans (al1 p hp) o1
  refine' kd_any (σ := D1) (fun c => [(wx, instObj 148 dx), (dx, dictOf es0 n0), (vl, W.listOf c.vvs.toArray c.ve), (wm, c.oW), (nm, c.oN), (cl, W.listOf #[] 0)]) news (fun _ => [])
    (fun led c => c.oN.IsDictOf (intKind Challenge.rw_on0115_01.row.prog w) c.kn ∧ PyProof.V.FlatPairs PyData.int c.kn c.DN ∧ c.oW.IsDictOf (PySem.strKind Challenge.rw_on0115_01.row.prog w) c.kw ∧ PyProof.V.FlatPairs PyData.str c.kw c.DW ∧ VrAll led c.vvs c.vr)
    [Str.ofString "signal", Str.ofString "kind"] (fun i c => NmK i c.DN ∧ WdK sg i c.DW ∧ c.vvs.length = i ∧ c.vr = vrsOf (sg.take i)) (wx :: dx :: vl :: wm :: nm :: cl :: news.map (·.1)) ⟨oN, [], [], oW, [], [], [], 0, []⟩
    (by rfl) mwl eF eN ?hn1 (fun _ => rfl) ⟨hN1, .nil, hW1, .nil, ?hv1⟩ (fun _ hp => nomatch hp) ?hp1 ?turn1 ?done1
  case hn1 => rw [r9, r10]; kd_inAll
  case hv1 => exact .nil
  case hp1 => exact ⟨⟨Nat.le_refl _, fun j hj => absurd hj (Nat.not_lt_zero _)⟩, ⟨Nat.le_refl _, fun j g hj => absurd hj (Nat.not_lt_zero _)⟩, rfl, rfl⟩
  case turn1 =>
    clear eF eN r9 r10 q5
    rintro ⟨oN, kn, DN, oW, kw, DW, vvs, ve, vr⟩ tl i v u h' tk' own hv' hsep hoff ⟨f1, f2, f3, f4, f5⟩ ⟨g1, g2, g3, g4⟩ F' N'
    obtain ⟨ti, rfl, hi⟩ := int_range hWI hv'
    have hgi : sg[((i : Int)).toNat]? = some sg[i] := List.getElem?_eq_getElem hi
    have hgo := hS.get (List.getElem?_eq_getElem hi)
    obtain ⟨hw1, hw5⟩ : 1 ≤ sg[i].wd ∧ sg[i].wd ≤ 5 := ⟨hgo.lo, hgo.hi⟩
    have hgk := hgo.kind
    have hvo := (vrOf_ok hgo (by omega)).parts
    have hDN := g1.1
    have hDW := g2.1
    dsimp only [kstB, vrOf] at F' N' f1 f2 f3 f4 f5 g3 g4 hvo hDN hDW
    simp only [List.cons_append, List.nil_append] at N' f5
    (try k_fold)
    refine gen_post fun S9 Q9 hS9 => ?_
    k_steps
    all_goals refine Hold.of ?_
    all_goals (rename Fr _ _ _ _ => eF)
    all_goals (rename News _ _ _ _ => eN)
    all_goals subst hS9
    all_goals
      refine nameA eN fun tp o r1 r2 => ?_
      subst r1
      refine' kd_end (tl := tl) ⟨_, _, _, _, _, _, vvs ++ [.ref tp], _, vr ++ [vrOf i sg[i]]⟩ [(tp, o)] ?kS ?kF ?kN ?kn ?ko ?ka ?kb ?kw ?kk ?kr ?kf ?kp
      case kS => assumption
      case kF => exact eF
      case kN => exact eN
      case kn => rw [r2]; kd_inAll
      case ko => (intro p hp; kst_mem)
      case ka => rfl
      case kb => kd_addB
      case kw => kd_addW
      case kk => exact fun _ hp => nomatch hp
      case kr => kst_same
      case kf => exact ⟨by assumption, by assumption, by assumption, by assumption, .snoc (f5.mono fun p hp => kd_sub (cst := news) (add := [(tp, o)]) p hp) (vrIn_mk (g := sg[i]) (kd_new (.head _)) r2 (by first | exact kdOf_reg (by assumption) | exact kdOf_wire (by assumption)) g3)⟩
      case kp => exact ⟨g1.snoc g3, g2.snoc (List.getElem?_eq_getElem hi) (by omega) g3, by rw [List.length_append, g3]; rfl, by dsimp only; rw [g4]; exact (vrs_take (List.getElem?_eq_getElem hi)).symm⟩
  case done1 =>
    clear eF eN r9 r10
    rintro ⟨oN, kn, DN, oW, kw, DW, vvs, ve, vr⟩ tl u h' tk' hoff ⟨f1, f2, f3, f4, f5⟩ ⟨g1, g2, g3, g4⟩ F' N'
    rw [hlw, List.take_length] at g4
    rw [hlw] at g1 g2 g3
    subst g4
    obtain ⟨nt0, q5⟩ := q5
    dsimp only [kstB] at F' N' f1 f2 f3 f4 f5 g1 g2 g3
    simp only [List.cons_append, List.nil_append] at N' f5
    have hhl := hHA.length
    have hvr := vrs_len sg
    (try k_fold)
    k_steps
    refine Hold.of ?_
    (rename News _ _ _ _ => eN)
    (rename Fr _ _ _ _ => eF)
    refine' kd_anyT (σ := D2) (fun c => [(wx, instObj 148 dx), (dx, dictOf c.es c.n), (cl, W.listOf c.cvs.toArray c.ce)]) ((vl, W.listOf vvs.toArray ve) :: (wm, oW) :: (nm, oN) :: (news ++ tl)) (fun _ => []) (fun led c => All2 (CgIn led) c.cvs c.hs) [Str.ofString "key", Str.ofString "value"]
      (fun i c => c.hs = H.take i ∧ Dic c.es (5 + i) ∧ c.cvs.length = i ∧ EsK c.es vl cl wm t c.now c.nt ∧ -1 ≤ c.now ∧ ∀ (j : Nat) (x : Hv), i ≤ j → H[j]? = some x → c.now ≤ x.now) (wx :: dx :: cl :: vl :: wm :: nm :: (news ++ tl).map (·.1)) ⟨es0, n0, [], 0, -1, nt0, []⟩ (Str.ofString "time")
      (by rfl) (.tail _ (.tail _ (.tail _ (List.mem_append_left _ mhl)))) eF eN ?hn2 (fun _ => rfl) .nil (fun _ hp => nomatch hp) ?hp2 ?turn2 ?done2
    case hn2 => kd_inAll
    case hp2 => exact ⟨rfl, q9, rfl, ⟨q1, q2, q3, q4, q5, q7, q8⟩, Int.le_refl _, fun j x _ hx => by have := (hHo.lo.2 x (List.mem_of_getElem? hx)).1; dsimp only; omega⟩
    case turn2 =>
      clear eF eN q1 q2 q3 q4 q5 q6 q7 q8 q9
      rintro ⟨es, n, cvs, ce, now, nt, hs⟩ tl2 i v u ⟨h', g', d', tk', o'⟩ own hv' hsep hoff2 z1 ⟨z2, z3, z4, z5, z6, z7⟩ F' N'
      obtain ⟨hg, hgi, tp, tq, n8, n9, t1, t2, t3, t4, t5, rfl, hmt, hmq⟩ := hHA.at hv'
      obtain ⟨hn0, hn1, hvk⟩ := hHo.lo.2 hg (List.mem_of_getElem? hgi)
      obtain ⟨k0, k1, ⟨gg, hgg, hwd⟩, _, _, _, _⟩ := hvk
      have hz7 := z7 i hg (Nat.le_refl _) hgi
      have hi9 := (List.getElem?_eq_some_iff.mp hgi).1
      have hl1 : PySem.Spec.lookup (PyData.str (idT hg.key)) DW = some (PyData.int hg.wd) := by
        have := g2.2 hg.key.toNat gg (by omega) hgg
        rwa [Int.toNat_of_nonneg k0, ← hwd] at this
      have hl2 : PySem.Spec.lookup (PyData.int hg.key) DN = some (PyData.str (idT hg.key)) := by
        have := g1.2 hg.key.toNat (by omega)
        rwa [Int.toNat_of_nonneg k0] at this
      obtain ⟨q1, q2, q3, q4, q5, q7, q8⟩ := id z5
      dsimp only [kstB] at F' N' z1 z2 z3 z4 z5 z6 q1 q2 q3 q4 q5 q7 q8 hz7 ⊢
      simp only [List.cons_append, List.nil_append] at N' z1
      have od2 : @LT.lt Nat _ dx wx ∧ @LT.lt Nat _ dx cl ∧ @LT.lt Nat _ wx cl := ⟨o1, o10, o9⟩
      (try k_fold)
      generalize hS9 : KdS _ _ _ _ _ _ _ _ _ _ = S9
      k_steps
      refine Hold.of ?_
      (rename Fr _ _ _ _ => eF)
      (rename News _ _ _ _ => eN)
      subst hS9
      (try dsimp only)
      refine nameA eN fun tp o r1 r2 => ?_
      subst r1
      refine' kd_end (tl := tl2) ⟨_, _, cvs ++ [.ref tp], _, _, _, hs ++ [hg]⟩ [(tp, o)] ?kS ?kF ?kN ?kn ?ko ?ka ?kb ?kw ?kk ?kr ?kf ?kp
      case kS => assumption
      case kF => exact eF
      case kN => exact eN
      case kn => rw [r2]; kd_inAll
      case ko => (intro p hp; kst_mem)
      case ka => rfl
      case kb => kd_addB
      case kw => kd_addW
      case kk => exact fun _ hp => nomatch hp
      case kr => kst_same
      case kf => exact .snoc (z1.mono (CgIn.mono fun p hp => kd_sub (cst := (vl, W.listOf vvs.toArray ve) :: (wm, oW) :: (nm, oN) :: (news ++ tl)) (add := [(tp, o)]) p hp)) (cgIn_mk (kd_new (.head _)) r2 (List.mem_append_left _ (.tail _ (.tail _ (.tail _ (List.mem_append_left _ hmq))))))
      case kp => exact ⟨by dsimp only; rw [z2]; exact take_snoc hgi, by assumption, by rw [List.length_append, z4]; rfl, z5.set (by assumption), by show (-1 : Int) ≤ hg.now; omega, fun j x hj hx => hHo.rise (by omega) hgi hx⟩
    case done2 =>
      clear eF eN q1 q2 q3 q4 q5 q6 q7 q8 q9
      rintro ⟨es, n, cvs, ce, now, nt, hs⟩ tl2 u h' tk' hoff2 z1 ⟨z2, z3, z4, z5, z6, z7⟩ F' N'
      rw [hhl, List.take_length] at z2
      dsimp only at z2
      subst z2
      obtain ⟨q1, q2, q3, q4, q5, q7, q8⟩ := z5
      dsimp only [kstB] at F' N' z1 z3 z4 z6 z7 q1 q2 q3 q4 q5 q7 q8
      simp only [List.cons_append, List.nil_append] at N' z1
      have hvo := vrs_ok hS h4
      have hv4 : (vrsOf sg).length ≤ 4 := by rw [hvr]; exact h4
      have hV : VrAll ((wx, instObj 148 dx) :: (dx, dictOf es n) :: (cl, W.listOf cvs.toArray ce) :: (vl, W.listOf vvs.toArray ve) :: (wm, oW) :: (nm, oN) :: (news ++ tl ++ tl2)) vvs (vrsOf sg) :=
        f5.mono fun p hp => .tail _ (.tail _ (.tail _ (.tail _ (.tail _ (.tail _ (List.mem_append_left _ hp))))))
      have hC : All2 (CgIn ((wx, instObj 148 dx) :: (dx, dictOf es n) :: (cl, W.listOf cvs.toArray ce) :: (vl, W.listOf vvs.toArray ve) :: (wm, oW) :: (nm, oN) :: (news ++ tl ++ tl2))) cvs hs :=
        z1.mono (CgIn.mono fun p hp => .tail _ (.tail _ (.tail _ hp)))
      have hHk : ∀ h ∈ hs, CgOk h := fun h hh => by
        obtain ⟨a, b, c⟩ := hHo.lo.2 h hh
        obtain ⟨g, hg, e⟩ := c.wd
        have := (hS.get hg)
        exact ⟨a, by omega, e ▸ this.lo, e ▸ this.hi⟩
      have hlk : ∀ h ∈ hs, PySem.Spec.lookup (PyData.str (idT h.key)) DW = some (PyData.int h.wd) := fun h hh => by
        obtain ⟨a, b, c⟩ := hHo.lo.2 h hh
        obtain ⟨g, hg, e⟩ := c.wd
        have k0 := c.k0
        have k1 := c.k1
        have := g2.2 h.key.toNat g (by omega) hg
        rwa [Int.toNat_of_nonneg k0, ← e] at this
      (try k_fold)
      k_steps
      walk_at "mine pure"
      exact ⟨_, rfl⟩
theorem word_57 : True := by
  (k_with "call ref" => (k_here; (with_reducible show wpAny _ _ (call (Value.ref 174) _) _ _ _); k_dflt (refine' Spec.use (dump_text_spec _ _ _ _ _ _ _ ?hWzh ?h1zh ?h4zh ?hSzh ?hHzh ?hHozh ?hmzh) ?k1zh ?k2zh ?k3zh ?k4zh ?k5zh ?kKzh ?kdzh ?kuzh ?_; (case k1zh => k_asm); (case k2zh => k_asm); (case k3zh => k_asm); (case k4zh => k_asm); (case k5zh => k_asm); (case kKzh => first | exact rfl | assumption); (case kdzh => ktr_room); (case kuzh => ktr_units); (case hWzh => assumption); (case h1zh => assumption); (case h4zh => assumption); (case hSzh => assumption); (case hHzh => assumption); (case hHozh => assumption); (case hmzh => assumption)); intro r9zq nw9zq h9zq tk9zq F9zq N9zq hr9zq; obtain ⟨e9zq, t9zq, e9bzq⟩ := hr9zq; (have e8zq := e9zq.symm); (clear e9zq); (subst e8zq); (try subst e9bzq); (try dsimp only at N9zq); (try dsimp only); (try k_lt l9zq); (try k_sweep)))
  trivial

theorem ofS_nil : Str.ofString "" = Str.empty := by decide +kernel
theorem join_cons0 (x : Str) (r : List Str) : Txt.join (Str.ofString "") (x :: r) = x ++ Txt.join (Str.ofString "") r := by
  show Builtin.Str.glued _ _ = x ++ Builtin.Str.glued _ _
  rw [StrLaws.glued_eq_join, StrLaws.glued_eq_join, ofS_nil]
  cases r with
  | nil => exact (Str.append_empty x).symm
  | cons y r =>
    show x ++ Str.empty ++ Str.join Str.empty (y :: r) = _
    rw [Str.append_empty]
theorem sgn_bits (a b : Int) : ∀ n : Nat, sgnCat a b (rangeKs 0 n) = Txt.join (Str.ofString "") ((downKs ((n : Int) - 1) n).map fun i => sgnT (codeZ a b i))
  | 0 => rfl
  | n + 1 => by
    have e1 : rangeKs 0 (n + 1) = rangeKs 0 n ++ [(n : Int)] := by
      unfold rangeKs
      rw [List.range_succ, List.map_append]
      simp
    have e2 : downKs (((n + 1 : Nat) : Int) - 1) (n + 1) = (n : Int) :: downKs ((n : Int) - 1) n := by
      unfold downKs
      rw [List.range_succ_eq_map, List.map_cons, List.map_map]
      congr 1
      · simp
      · apply List.map_congr_left
        intro i _
        simp only [Function.comp]
        omega
    rw [e1, e2, sgnCat_snoc, sgn_bits a b n, List.map_cons, join_cons0]
theorem sgn_eq {wd a b : Int} (h : 0 ≤ wd) : sgnCat a b (rangeKs 0 wd.toNat) = bitsT wd a b := by
  rw [sgn_bits, bitsT, Int.toNat_of_nonneg h]
theorem kq_depthAll : ∀ ns : List Str, PyData.depthAll (ns.map PyData.str) = 0
  | [] => rfl
  | _ :: r => by simp [PyData.depthAll, PyData.depth, kq_depthAll r]
theorem kq_shaped {ns : List Str} (h : ns.all PyData.strOk = true) : SeqAt.shaped (.list (ns.map PyData.str)) = true := by
  simp only [SeqAt.shaped, PyData.canLay0, PyData.depth, kq_depthAll]
  rw [show (ns.map PyData.str) = ns.map .str from rfl, canLayAll_strs', h]
  decide
theorem kq_sameAll : ∀ ns ms : List Str, PySem.Spec.sameAll (ns.map PyData.str) (ms.map PyData.str) = decide (ns = ms)
  | [], [] => by simp [PySem.Spec.sameAll]
  | [], _ :: _ => by simp [PySem.Spec.sameAll]
  | _ :: _, [] => by simp [PySem.Spec.sameAll]
  | a :: r, b :: t => by
    simp only [List.map_cons, PySem.Spec.sameAll, PySem.Spec.same, kq_sameAll r t]
    by_cases h : a = b <;> by_cases h' : r = t <;> simp [h, h']
theorem kq_same (ns ms : List Str) : PySem.Spec.same (.list (ns.map PyData.str)) (.list (ms.map PyData.str)) = decide (ns = ms) := by
  simp only [PySem.Spec.same]; exact kq_sameAll ns ms
theorem kq_carried {vs : List Value} {ns : List Str} (h : StrsAre vs ns) : CarriedAll vs (ns.map PyData.str) := by
  induction h with
  | nil => exact .nil
  | cons n t _ ih => exact .cons (.str n t) ih
section
variable {prog : Program} {w : World} {A : Around} {E : Value → Shared → Prop} {s : Shared} {h₀ : Heap} {L a b D : Addr} {m : Str → Option Value} {news news' : List (Addr × Obj)} {xs ys : List Value} {ns ms : List Str} {n k1 k2 : Nat} {la : Str} {Q : Value → Shared → Prop}
theorem ne_strs (N : News h₀ L s.heap news) (ha : (a, W.listOf xs.toArray k1) ∈ news) (hb : (b, W.listOf ys.toArray k2) ∈ news) (hi : StrsAre xs ns) (hj : StrsAre ys ms) (ho1 : ns.all PyData.strOk = true) (ho2 : ms.all PyData.strOk = true) (hu : A.units + 64 < cLine) (h : Q (.bool (!decide (ns = ms))) s) :
    wpAny (model prog w) A (compareOp .NotEq (.ref a) (.ref b)) Q E s :=
  ne_dataH_same (reads_newData (News.isList N ha) (kq_carried hi)) (reads_newData (News.isList N hb) (kq_carried hj)) (kq_shaped ho1) (kq_shaped ho2) hu (SeqAt.noMix_of_shape (.list .str) rfl _ _ (list_map_has fun _ => rfl) (list_map_has fun _ => rfl)) (by rw [kq_same]; exact h)
theorem strs_last {xs : List Value} {ns : List Str} (h : StrsAre xs ns) (h0 : 0 < xs.length) : ∃ y t, xs = xs.dropLast ++ [.str y t] ∧ ns = ns.dropLast ++ [y] ∧ StrsAre xs.dropLast ns.dropLast := by
  induction h with
  | nil => exact absurd h0 (Nat.lt_irrefl 0)
  | @cons k t vs' ns' r ih =>
    cases r with
    | nil => exact ⟨k, t, rfl, rfl, .nil⟩
    | cons k' t' r' =>
      obtain ⟨y, u, h1, h2, h3⟩ := ih (Nat.succ_pos _)
      exact ⟨y, u, congrArg (List.cons (Value.str k t)) h1, congrArg (List.cons k) h2, .cons k t h3⟩
theorem pop_strs (F : Fr h₀ L s.heap m) (N : News h₀ L s.heap news) (U : Upd D (listOf xs.toArray n) (listOf xs.dropLast.toArray (n + 1)) news news') (hi : StrsAre xs ns) (h0 : 0 < xs.length) (hz : xs.length ≤ 100)
    (h : ∀ h' y t, Fr h₀ L h' m → News h₀ L h' news' → ns = ns.dropLast ++ [y] → StrsAre xs.dropLast ns.dropLast → xs.dropLast.length = ns.dropLast.length → Q (.str y t) { s with heap := h' }) : wpAny (model prog w) A (call (.builtin "list.pop") [.ref D]) Q E s := by
  obtain ⟨y, t, h1, h2, h3⟩ := strs_last hi h0
  refine kl_pop F N (p := xs.dropLast) (y := .str y t) ?_ U (by rw [sizeLine_eq]; simp; omega) fun h' F' N' => h h' y t F' N' h2 h3 h3.length
  have e := kpa_last (.str y t) xs.dropLast
  rw [← h1] at e
  exact e
theorem add_any (F : Fr h₀ L s.heap m) (N : News h₀ L s.heap news) (ha : (a, W.listOf xs.toArray k1) ∈ news) (hb : (b, W.listOf ys.toArray k2) ∈ news) (hi : StrsAre xs ns) (hj : StrsAre ys ms) (hz : xs.length + ys.length ≤ 1000)
    (h : ∀ D zs h', Fr h₀ L h' m → News h₀ L h' ((D, listOf (List.toArray zs) 0) :: news) → (∀ p ∈ news, p.1 < D) → StrsAre zs (ns ++ ms) → zs.length = xs.length + ys.length → Q (.ref D) { s with heap := h' }) : wpAny (model prog w) A (binaryOp .Add (.ref a) (.ref b)) Q E s :=
  kmk_add_lit (zs := xs ++ ys) F N (News.isList N ha) (News.isList N hb) rfl (fun D h' F' N' o => h D _ h' F' N' o (StrsAre.append' hi hj) List.length_append) (by rw [sizeLine_eq]; simp; omega)
theorem strs_rep {v : Str} {t : Tok} : ∀ n : Nat, StrsAre (List.replicate n [Value.str v t]).flatten (List.replicate n v)
  | 0 => .nil
  | n + 1 => by
    rw [List.replicate_succ, List.flatten_cons, List.replicate_succ]
    exact .cons v t (strs_rep n)
theorem mul_one {v : Str} {t u : Tok} {x : Int} (F : Fr h₀ L s.heap m) (N : News h₀ L s.heap news) (ha : (a, W.listOf #[.str v t] k1) ∈ news) (hx : 0 ≤ x ∧ x ≤ 100)
    (h : ∀ D zs h', Fr h₀ L h' m → News h₀ L h' ((D, listOf (List.toArray zs) 0) :: news) → (∀ p ∈ news, p.1 < D) → StrsAre zs (List.replicate x.toNat v) → zs.length = x.toNat → Q (.ref D) { s with heap := h' }) : wpAny (model prog w) A (binaryOp .Mult (.ref a) (.int x u)) Q E s :=
  KMa.mul (vs := [.str v t]) F N (News.isList N ha) (by omega) (by omega) (by simp; omega) rfl fun D h' F' N' o => h D _ h' F' N' o (strs_rep _) ((strs_rep _).length.trans List.length_replicate)
end
theorem stepD_shift : ∀ (vs : List Vr) (r0 s0 : List Str), vs.foldl stepD (r0, s0) = (r0 ++ (vs.foldl stepD ([], s0)).1, (vs.foldl stepD ([], s0)).2)
  | [], r0, s0 => by simp
  | v :: vs, r0, s0 => by
    rw [List.foldl_cons, List.foldl_cons]
    rw [show stepD (r0, s0) v = (r0 ++ (stepD ([], s0) v).1, (stepD ([], s0) v).2) by simp [stepD]]
    rw [stepD_shift vs _ _, stepD_shift vs (stepD ([], s0) v).1 _]
    simp
theorem item_id {i : Nat} (h : i < 4) : Txt.item (Str.ofString "!\"#$") (i : Int) = idT (i : Int) := by
  have e : i = 0 ∨ i = 1 ∨ i = 2 ∨ i = 3 := by omega
  rcases e with rfl | rfl | rfl | rfl <;> decide +kernel
theorem comL_take : ∀ (u v : List Str) (k : Nat), k ≤ u.length → u.take k = v.take k → k ≤ v.length → k ≤ comL u v
  | _, _, 0, _, _, _ => Nat.zero_le _
  | [], _, k + 1, h, _, _ => absurd h (by simp)
  | _ :: _, [], k + 1, _, _, h => absurd h (by simp)
  | a :: u, b :: v, k + 1, h, e, h2 => by
    rw [List.take_succ_cons, List.take_succ_cons] at e
    injection e with e1 e2
    rw [comL, if_pos e1]
    exact Nat.succ_le_succ (comL_take u v k (by simpa using h) e2 (by simpa using h2))
theorem take_comL : ∀ (u v : List Str) (k : Nat), k ≤ comL u v → u.take k = v.take k
  | _, _, 0, _ => by simp
  | [], v, k + 1, h => absurd h (by cases v <;> simp [comL])
  | _ :: _, [], k + 1, h => absurd h (by simp [comL])
  | a :: u, b :: v, k + 1, h => by
    rw [comL] at h
    split at h
    · rename_i e
      rw [List.take_succ_cons, List.take_succ_cons, e, take_comL u v k (by omega)]
    · omega
theorem sok_of {i : Nat} {g : Sg} (h : SgOk i g) (hi : i < 4) : (Txt.split g.path (Str.ofString ".")).all PyData.strOk = true := by
  obtain ⟨j, hj, e⟩ := h.path
  rw [e]
  clear e
  have hi' : i = 0 ∨ i = 1 ∨ i = 2 ∨ i = 3 := by omega
  have hj' : j = 0 ∨ j = 1 ∨ j = 2 ∨ j = 3 := by omega
  rcases hj' with rfl | rfl | rfl | rfl <;> rcases hi' with rfl | rfl | rfl | rfl <;> decide +kernel
theorem pos_of_neT {xs : List Value} {os ws : List Str} {n : Nat} (hi : StrsAre xs os) (h : ¬ os = ws.take n) (e : n = 0 ↔ os.length = 0) : 0 < xs.length := by
  rw [hi.length]
  rcases Nat.eq_zero_or_pos os.length with h0 | h0
  · have e1 := List.eq_nil_of_length_eq_zero h0
    have e2 := e.mpr h0
    subst e1 e2
    simp at h
  · exact h0
section
variable {prog : Program} {w : World} {A : Around} {E : Value → Shared → Prop} {s : Shared} {h₀ : Heap} {L l D : Addr} {m : Str → Option Value} {news news' : List (Addr × Obj)} {value slice : PySem.Expr} {xs wvs : List Value} {ws : List Str} {la : Str} {n c : Nat} {k : Int} {u : Tok} {Q : Value → Shared → Prop}
theorem pop_la (F : Fr h₀ L s.heap m) (N : News h₀ L s.heap news) (hi : StrsAre xs (ws ++ [la])) (U : Upd D (listOf xs.toArray n) (listOf xs.dropLast.toArray (n + 1)) news news') (hz : ws.length ≤ 20)
    (h : ∀ h' t, Fr h₀ L h' m → News h₀ L h' news' → StrsAre xs.dropLast ws → xs.dropLast.length = ws.length → Q (.str la t) { s with heap := h' }) : wpAny (model prog w) A (call (.builtin "list.pop") [.ref D]) Q E s := by
  have hl := hi.length
  rw [List.length_append, List.length_singleton] at hl
  refine pop_strs F N U hi (by omega) (by omega) fun h' y t F' N' e1 e2 e3 => ?_
  rw [List.dropLast_concat] at e1 e2 e3
  obtain rfl : la = y := by simpa using e1
  exact h h' t F' N' e2 e3
theorem sub_watch (N : News h₀ L s.heap news) (hI : IntsAre wvs ((List.range c).map fun (i : Nat) => (i : Int))) (hm : (l, W.listOf wvs.toArray n) ∈ news) (h0 : 0 ≤ k ∧ k < c) (h9 : c ≤ 100) (h : ∀ t, Q (.int k t) s)
    (hs : subscripted slice false (.ref l) (.int k u) = operate [.ref l, .int k u] (getItem (.ref l) (.int k u)) := by with_unfolding_all rfl) :
    wpAny (model prog w) A (subscriptTail value slice (.ref l) (.int k u)) Q E s := by
  have hL : s.heap.IsList l wvs.toArray := News.isList N hm
  have hl := hI.length
  rw [List.length_map, List.length_range] at hl
  have hv : wvs[k.toNat]? = some (wvs[k.toNat]'(by omega)) := List.getElem?_eq_getElem _
  obtain ⟨t, e1, e2⟩ := int_range hI hv
  rw [Int.toNat_of_nonneg h0.1] at e1
  exact tail_any hL.typeIs slot_list_getitem.lookup (wpAny_getItem_list hL h0.1 (by omega) (by simpa using hv.trans (by rw [e1])) (h t)) hs
end
structure LSt where
  rvs : List Value
  rows : List Str
  re : Nat
  ovs : List Value
  os : List Str
  oe : Nat
abbrev tsT : Str := Str.ofString "$timescale 10ps $end"
theorem all_take {l : List Str} {p : Str → Bool} {n : Nat} (h : l.all p = true) : (l.take n).all p = true := List.all_eq_true.mpr fun x hx => List.all_eq_true.mp h x (List.mem_of_mem_take hx)
theorem pop_go {os ws os1 rows rows1 : List Str} {j n : Nat} (a1 : os1 = os.take j) (a2 : j ≤ os.length) (a3 : comL os ws ≤ j) (a4 : rows1 = rows ++ List.replicate (os.length - j) upT) (hn : n = os1.length) (hne : ¬ os1 = ws.take n) :
    ∃ j', os1.dropLast = os.take j' ∧ j' ≤ os.length ∧ comL os ws ≤ j' ∧ rows1 ++ [upT] = rows ++ List.replicate (os.length - j') upT := by
  have hj : os1.length = j := by rw [a1, List.length_take]; omega
  have hne' : os1 ≠ ws.take j := by
    rw [hn, hj] at hne; exact hne
  have h1 : comL os ws ≠ j := fun e => hne' (by rw [a1]; exact take_comL os ws j (by omega))
  have h2 : 0 < j := by omega
  refine ⟨j - 1, ?_, by omega, by omega, ?_⟩
  · rw [a1, List.dropLast_eq_take, List.length_take, List.take_take, Nat.min_eq_left a2, Nat.min_eq_left (Nat.sub_le _ _)]
  · rw [a4, List.append_assoc, show os.length - (j - 1) = (os.length - j) + 1 by omega, List.replicate_succ']
theorem pop_stop {os ws os1 rows rows1 : List Str} {j n : Nat} (a1 : os1 = os.take j) (a2 : j ≤ os.length) (a3 : comL os ws ≤ j) (a4 : rows1 = rows ++ List.replicate (os.length - j) upT) (hn : n = os1.length) (he : os1 = ws.take n) :
    os1 = ws.take (comL os ws) ∧ rows1 = rows ++ List.replicate (os.length - comL os ws) upT ∧ os1.length = comL os ws := by
  have hj : os1.length = j := by rw [a1, List.length_take]; omega
  have he' : os1 = ws.take j := by rw [hn, hj] at he; exact he
  have hjw : j ≤ ws.length := by
    have := congrArg List.length he'
    rw [hj, List.length_take] at this
    omega
  have h1 := comL_take os ws j a2 (by rw [← a1, he']) hjw
  have e : j = comL os ws := by omega
  subst e
  exact ⟨he', a4, hj⟩
theorem push_go {ws os2 rows1 rows2 : List Str} {k0 j n : Nat} {p : Str} (a1 : os2 = ws.take j) (a2 : k0 ≤ j) (a3 : j ≤ ws.length) (a4 : rows2 = rows1 ++ ((ws.take j).drop k0).map scopeT) (hn : n = os2.length) (hp : ws[n]? = some p) :
    ∃ j', os2 ++ [p] = ws.take j' ∧ k0 ≤ j' ∧ j' ≤ ws.length ∧ rows2 ++ [scopeT p] = rows1 ++ ((ws.take j').drop k0).map scopeT := by
  have hj : os2.length = j := by rw [a1, List.length_take]; omega
  have hi := (List.getElem?_eq_some_iff.mp hp).1
  rw [hn, hj] at hp hi
  have e : ws.take (j + 1) = ws.take j ++ [p] := by rw [List.take_add_one, hp]; rfl
  refine ⟨j + 1, by rw [e, a1], by omega, hi, ?_⟩
  rw [e, List.drop_append_of_le_length (by rw [List.length_take]; omega), List.map_append, a4, List.append_assoc]
  rfl
theorem push_stop {ws os2 rows1 rows2 : List Str} {k0 j : Nat} (a1 : os2 = ws.take j) (a3 : j ≤ ws.length) (a4 : rows2 = rows1 ++ ((ws.take j).drop k0).map scopeT) (h : ws.length ≤ os2.length) : os2 = ws ∧ rows2 = rows1 ++ (ws.drop k0).map scopeT := by
  have hj : os2.length = j := by rw [a1, List.length_take]; omega
  have e : j = ws.length := by omega
  subst e
  rw [List.take_length] at a1 a4
  exact ⟨a1, a4⟩
section
variable {prog : Program} {w : World} {A : Around} {E : Value → Shared → Prop} {s : Shared} {h₀ : Heap} {L l : Addr} {news : List (Addr × Obj)} {value slice : PySem.Expr} {vs : List Value} {xs : List Str} {n : Nat} {k : Int} {u : Tok} {Q : Value → Shared → Prop}
theorem sub_textB (N : News h₀ L s.heap news) (hS : StrsAre vs xs) (hm : (l, W.listOf vs.toArray n) ∈ news) (hb : ∀ p ∈ xs, p.length ≤ 4) (h0 : 0 ≤ k) (h1 : k < xs.length) (h9 : xs.length ≤ 100)
    (h : ∀ (p : Str) (t : Tok), xs[k.toNat]? = some p → p.length ≤ 4 → Q (.str p t) s)
    (hs : subscripted slice false (.ref l) (.int k u) = operate [.ref l, .int k u] (getItem (.ref l) (.int k u)) := by with_unfolding_all rfl) :
    wpAny (model prog w) A (subscriptTail value slice (.ref l) (.int k u)) Q E s := sub_text N hm hS h0 h1 h9 (fun p t e1 e2 => h p t e1 (hb p e2)) hs
end
/-- the sign that texts are put together by the short rule -/
structure ShortOn : Prop where
section
variable {prog : Program} {w : World} {A : Around} {E : Value → Shared → Prop} {s : Shared} {t u : Tok} {Q : Value → Shared → Prop} {x y : Str} {a b : Nat} {p : Sem Value}
theorem add_b (hx : x.length ≤ a) (hy : y.length ≤ b) (hz : a + b ≤ 100000) (h : ∀ t' c, (x ++ y).length ≤ a + b → Q (.str (x ++ y) t') { s with toks := c }) :
    wpAny (model prog w) A (binaryOp .Add (.str x t) (.str y u)) Q E s :=
  SBL.add (fun t' c g => h t' c (by have := g.2; omega)) (by rw [sizeLine_eq]; omega)
def JoinS (x : Str) (s : Shared) (v : Value) (s' : Shared) : Prop := ∃ t tk, v = .str x t ∧ s' = { s with toks := tk }
theorem JoinS.mk {t' tk' : Tok} (e : y = x) : JoinS x s (.str y t') { s with toks := tk' } := ⟨t', tk', by rw [e], rfl⟩
theorem join_str (x : Str) (h : wpAny (model prog w) A p (JoinS x s) E s) (k : ∀ t tk, Q (.str x t) { s with toks := tk }) : wpAny (model prog w) A p Q E s :=
  wpAny_mono h (fun v s' ⟨t, tk, e1, e2⟩ => by subst e1 e2; exact k t tk) fun _ _ x => x
theorem lit_le {x : Str} (h : decide (x.length ≤ 30) = true) : x.length ≤ 30 := of_decide_eq_true h
end
theorem drop_lt {l : List Str} {y : Str} (h : l = l.dropLast ++ [y]) : l.dropLast.length < l.length := by
  have := congrArg List.length h
  rw [List.length_append, List.length_singleton] at this
  omega
theorem spanT_one {wd : Int} (h : wd = 1) : Str.ofString "" = spanT wd := by unfold spanT; rw [if_neg (by omega)]
theorem spanT_more {wd : Int} (h : 1 < wd) : Str.ofString " [" ++ Str.ofString (toString (wd - 1)) ++ Str.ofString ":0]" = spanT wd := by unfold spanT; rw [if_pos (by omega)]
theorem kdOf_len (g : Sg) : (kdOf g).length ≤ 4 := by unfold kdOf; split <;> decide +kernel
theorem item_len {i : Nat} (h : i < 4) : (Txt.item (Str.ofString "!\"#$") (i : Int)).length ≤ 4 := by rw [item_id h]; exact idT_len _
theorem varT_eq {i : Nat} {g : Sg} {la : Str} (h : i < 4) (hla : la = (vrOf i g).la) : Str.ofString "$var " ++ kdOf g ++ Str.ofString " " ++ Str.ofString (toString g.wd) ++ Str.ofString " " ++ Txt.item (Str.ofString "!\"#$") (i : Int) ++ Str.ofString " " ++ la ++ spanT g.wd ++ Str.ofString " $end" = varT (vrOf i g) := by
  rw [item_id h, hla]; rfl
theorem getD_last {xs : List Str} {x d : Str} : (xs ++ [x]).getD (-1 + ((xs ++ [x]).length : Int)).toNat d = x := by
  have e : (-1 + ((xs ++ [x]).length : Int)).toNat = xs.length := by rw [List.length_append, List.length_singleton]; omega
  rw [e, List.getD_eq_getElem?_getD, List.getElem?_concat_length]; rfl
theorem law_step {sg : List Sg} {i n : Nat} {g : Sg} {r0 rows os rows1 ws : List Str} (hi : sg[i]? = some g) (g1 : (rows, os) = (vrsOf (sg.take i)).foldl stepD (r0, [])) (c2 : rows1 = rows ++ List.replicate (os.length - comL os ws) upT) (hws : ws = (vrOf i g).ws) (hn : n = i + 1) :
    (rows1 ++ (ws.drop (comL os ws)).map scopeT ++ [varT (vrOf i g)], ws) = (vrsOf (sg.take n)).foldl stepD (r0, []) := by
  subst hn c2
  rw [vrs_take hi, List.foldl_append, ← g1]
  show _ = stepD (rows, os) (vrOf i g)
  rw [stepD, ← hws]
abbrev endT : Str := Str.ofString "$enddefinitions $end"
theorem law_rows {sg : List Sg} {rows os : List Str} {n : Nat} (hS : SgsOk sg) (h4 : sg.length ≤ 4) (g1 : (rows, os) = (vrsOf sg).foldl stepD ([tsT], [])) (hn : n = os.length) :
    rows ++ List.replicate n upT ++ [endT] = [Str.ofString "$timescale " ++ Str.ofString "10ps" ++ Str.ofString " $end"] ++ rowsD (vrsOf sg) ++ [endT] ∧
      (rows ++ List.replicate n upT ++ [endT]).length ≤ 41 ∧ ∀ y ∈ rows ++ List.replicate n upT ++ [endT], y.length ≤ 80 := by
  subst hn
  have hvo := vrs_ok hS h4
  have e : rows ++ List.replicate os.length upT ++ [endT] = [Str.ofString "$timescale " ++ Str.ofString "10ps" ++ Str.ofString " $end"] ++ rowsD (vrsOf sg) ++ [endT] := by
    rw [stepD_shift] at g1
    injection g1 with e1 e2
    subst e1 e2
    rw [show Str.ofString "$timescale " ++ Str.ofString "10ps" ++ Str.ofString " $end" = tsT by decide +kernel]
    simp only [rowsD, List.append_assoc]
  obtain ⟨r1, r2⟩ := rowsD_ok hvo
  rw [vrs_len] at r1
  refine ⟨e, ?_, fun y hy => ?_⟩
  · rw [e]; simp only [List.length_append, List.length_singleton]; omega
  · rw [e] at hy
    rcases List.mem_append.mp hy with hy | hy
    · rcases List.mem_append.mp hy with hy | hy
      · rw [List.mem_singleton.mp hy]; decide +kernel
      · exact r2 y hy
    · rw [List.mem_singleton.mp hy]; decide +kernel
theorem item_key {k : Int} (h0 : 0 ≤ k) (h4 : k < 4) : Txt.item (Str.ofString "!\"#$") k = idT k := by
  have := item_id (i := k.toNat) (by omega)
  rwa [Int.toNat_of_nonneg h0] at this
theorem lawRow1 {wd a b k : Int} (h0 : 0 ≤ k) (h4 : k < 4) (h1 : 1 ≤ wd) (h : ¬ 1 < wd) : ChRow wd (idT k) a b (sgnCat a b (rangeKs 0 wd.toNat) ++ Txt.item (Str.ofString "!\"#$") k) :=
  .inl ⟨by omega, by rw [sgn_eq (by omega), item_key h0 h4]⟩
theorem lawRow2 {wd a b k : Int} {y : Str} (h0 : 0 ≤ k) (h4 : k < 4) (h : 1 < wd) (hs : Short (sgnCat a b (rangeKs 0 wd.toNat)) y) : ChRow wd (idT k) a b (Str.ofString "b" ++ y ++ Str.ofString " " ++ Txt.item (Str.ofString "!\"#$") k) :=
  .inr ⟨by omega, y, by rwa [sgn_eq (by omega)] at hs, by rw [item_key h0 h4]⟩
theorem chg_old2 {H : List Hv} {i : Nat} {h : Hv} {zs r0 : List Str} {now n0 : Int} {y : Str} (hi : H[i]? = some h) (z2 : (zs, now) = (H.take i).foldl stepT (r0, n0)) (hne : h.now = now) (z3 : zs.length ≤ 41 + 2 * i) (z4 : ∀ y ∈ zs, y.length ≤ 80)
    (hc : ChRow h.wd (idT h.key) h.a h.b y) (hw : h.wd ≤ 5) (hn : (idT h.key).length ≤ 4) :
    (zs ++ [chRowT h.wd (idT h.key) h.a h.b], h.now) = (H.take (i + 1)).foldl stepT (r0, n0) ∧ (zs ++ [chRowT h.wd (idT h.key) h.a h.b]).length ≤ 41 + 2 * (i + 1) ∧ ∀ y ∈ zs ++ [chRowT h.wd (idT h.key) h.a h.b], y.length ≤ 80 := by
  rw [hne]; exact chg_old hi z2 hne z3 z4 hc hw hn
theorem word_58 : True := by
  (k_with "compareOp NotEq ref ref" => (k_here; (with_reducible show wpAny _ _ (compareOp CmpOp.NotEq (Value.ref _) (Value.ref _)) _ _ _); k_dflt (refine' ne_strs ?Nzh ?azh ?bzh ?izh ?jzh ?ozh ?qzh ?uzh ?_; (case Nzh => k_asm); (case azh => k_mem); (case bzh => k_mem); (case izh => assumption); (case jzh => assumption); (case ozh => assumption); (case qzh => first | assumption | exact all_take (by assumption)); (case uzh => ktr_units))))
  trivial
theorem word_59 : True := by
  (k_with "call builtin:list.pop" => (k_here; (with_reducible show wpAny _ _ (call (Value.builtin _) [Value.ref _]) _ _ _); k_dflt (refine' pop_strs ?Fzh ?Nzh ?Uzh ?izh ?lzh ?zzh ?_; (case Fzh => k_asm); (case Nzh => k_asm); (case Uzh => k_upd); (case izh => assumption); (case lzh => first | omega | exact pos_of_neT (by assumption) (by assumption) (by omega)); (case zzh => omega)); (intro h'zq y8zq t8zq F'zq N'zq hy8zq hI8zq hI9zq; (try dsimp only [List.nil_append, List.cons_append] at N'zq))))
  trivial
theorem word_60 : True := by
  (k_with "binaryOp Add ref ref" => (k_here; (with_reducible show wpAny _ _ (binaryOp Operator.Add (Value.ref _) (Value.ref _)) _ _ _); k_dflt (refine' add_any ?Fzh ?Nzh ?azh ?bzh ?izh ?jzh ?zzh ?_; (case Fzh => k_asm); (case Nzh => k_asm); (case azh => k_mem); (case bzh => k_mem); (case izh => assumption); (case jzh => first | assumption | exact .cons _ _ .nil); (case zzh => (try simp only [List.length_cons, List.length_nil]); omega)); (intro D'zq ws'zq h'zq F'zq N'zq l1zq hS'zq hL'zq; (try k_lt l1zq); (try k_sweep))))
  trivial
theorem word_61 : True := by
  (k_with "binaryOp Mult ref int" => (k_here; (with_reducible show wpAny _ _ (binaryOp Operator.Mult (Value.ref _) (Value.int _ _)) _ _ _); k_dflt (refine' mul_one ?Fzh ?Nzh ?azh ?xzh ?_; (case Fzh => k_asm); (case Nzh => k_asm); (case azh => k_mem); (case xzh => omega)); (intro D'zq ws'zq h'zq F'zq N'zq l1zq hS'zq hL'zq; (try k_lt l1zq); (try k_sweep))))
  trivial
theorem word_62 : True := by
  (k_with "call builtin:list.pop" => (k_here; (with_reducible show wpAny _ _ (call (Value.builtin _) [Value.ref _]) _ _ _); k_dflt (refine' pop_la ?Fzh ?Nzh ?izh ?Uzh ?zzh ?_; (case Fzh => k_asm); (case Nzh => k_asm); (case izh => assumption); (case Uzh => k_upd); (case zzh => omega)); (intro h'zq t8zq F'zq N'zq hI8zq hI9zq; (try dsimp only [List.nil_append, List.cons_append] at N'zq))))
  trivial
theorem word_63 : True := by
  (k_with "subscriptTail" => (k_here; (with_reducible show wpAny _ _ (subscriptTail _ _ (Value.ref _) (Value.int _ _)) _ _ _); k_dflt (refine' sub_watch ?Nzh ?Izh ?mzh ?azh ?bzh ?_; (case Nzh => k_asm); (case Izh => assumption); (case mzh => k_mem); (case azh => omega); (case bzh => omega)); intro t8zq))
  trivial
theorem word_64 : True := by
  (k_with "subscriptTail" => (k_here; (with_reducible show wpAny _ _ (subscriptTail _ _ (Value.ref _) (Value.int _ _)) _ _ _); k_dflt (refine' sub_textB ?Nzh ?szh ?mzh ?fzh ?azh ?bzh ?czh ?_; (case Nzh => k_asm); (case mzh => k_mem); (case szh => assumption); (case fzh => assumption); (case azh => first | assumption | omega); (case bzh => omega); (case czh => omega)); intro x8zq t8zq hx8zq hz8zq))
  trivial
theorem word_65 : True := by
  (k_with "eval IfExp" => ((rename HoldOn => hOnzq); refine Hold.mk ?_))
  trivial
theorem word_66 : True := by
  (k_with "eval BinOp" => ((rename HoldOn => hOnzq); (with_reducible show wpAny _ _ (eval (Expr.BinOp (Expr.BinOp (Expr.BinOp (Expr.BinOp (Expr.BinOp (Expr.BinOp _ _ _ _) _ _ _) _ _ _) _ _ _) _ _ _) _ _ _) _) _ _ _); refine Hold.mk ?_))
  trivial
theorem word_67 : True := by
  (k_with "sh le" => first | (with_reducible assumption) | exact lit_le (by decide +kernel) | exact num_len (by omega) (by omega))
  trivial
theorem word_68 : True := by
  (k_with "binaryOp Add str str" => (k_here; (rename ShortOn => hShzq); (with_reducible show wpAny _ _ (binaryOp Operator.Add (Value.str _ _) (Value.str _ _)) _ _ _); (refine' add_b ?xzh ?yzh ?zzh ?_; (case xzh => walk_at "sh le"); (case yzh => walk_at "sh le"); (case zzh => decide)); intro t8zq k8zq hs8zq))
  trivial
theorem word_69 : True := by
  (k_with "binaryOp Add str str" => (simp only [getD_last]))
  trivial
theorem word_70 : True := by
  (k_with "call ref" => (k_here; (with_reducible show wpAny _ _ (call (Value.ref 328) _) _ _ _); k_dflt (refine' Spec.use (law_signs_spec _ _ _ _ _ _ _ _ _ _ ?hmzh ?hwzh ?hazh ?hbzh) ?k1zh ?k2zh ?k3zh ?k4zh ?k5zh ?kKzh ?kdzh ?kuzh ?_; (case k1zh => k_asm); (case k2zh => k_asm); (case k3zh => k_asm); (case k4zh => k_asm); (case k5zh => k_asm); (case kKzh => first | exact rfl | assumption); (case kdzh => ktr_room); (case kuzh => ktr_units); (case hmzh => k_mem); (case hwzh => omega); (case hazh => omega); (case hbzh => omega)); intro r9zq nw9zq h9zq tk9zq F9zq N9zq hr9zq; obtain ⟨e9zq, t9zq, e9bzq⟩ := hr9zq; (have e8zq := e9zq.symm); (clear e9zq); (subst e8zq); (try subst e9bzq); (try dsimp only at N9zq); (try dsimp only); (try k_lt l9zq); (try k_sweep)))
  trivial
theorem word_71 : True := by
  (k_with "call ref" => (k_here; (with_reducible show wpAny _ _ (call (Value.ref 335) _) _ _ _); k_dflt (refine' Spec.use (law_short_spec _ _ _ _ ?h1zh ?h2zh) ?k1zh ?k2zh ?k3zh ?k4zh ?k5zh ?kKzh ?kdzh ?kuzh ?_; (case k1zh => k_asm); (case k2zh => k_asm); (case k3zh => k_asm); (case k4zh => k_asm); (case k5zh => k_asm); (case kKzh => first | exact rfl | assumption); (case kdzh => ktr_room); (case kuzh => ktr_units); (case h1zh => omega); (case h2zh => omega)); intro r9zq nw9zq h9zq tk9zq F9zq N9zq hr9zq; obtain ⟨e9zq, y9zq, t9zq, e9bzq, hs9zq, hy9zq⟩ := hr9zq; (have e8zq := e9zq.symm); (clear e9zq); (subst e8zq); (try subst e9bzq); (try dsimp only at N9zq); (try dsimp only); (try k_lt l9zq); (try k_sweep)))
  trivial

theorem law_due_spec (w : World) (news : List (Addr × Obj)) (d : Addr) (sg : List Sg) (H : List Hv) (m : Int) (hW : WorldIn news d sg H) (h1 : 1 ≤ sg.length) (h4 : sg.length ≤ 4) (hS : SgsOk sg) (hH : H.length ≤ 9) (hHo : HvsOk sg H m) (hm : m ≤ 30) :
    Spec w 342 [.ref d] 6 300 news (fun r news' => news' = news ∧ ∃ t, r = .str (dumpT (Str.ofString "10ps") (vrsOf sg) H) t) := by
  obtain ⟨dd, sl, wl, hl, es, n, n1, n2, n3, svs, wvs, hvs, md, mdd, msl, mwl, mhl, qs, qw, qh, qd, hSA, hWI, hHA⟩ := hW
  refine' Spec.of_body (binds := [("design", .ref d)]) ?ho ?hcd ?hb ?hl (by decide) ?c2 ?c3 ?c4 ?c5 ?_
  (case ho => k_dflt k_is)
  (case hcd => k_dflt k_is)
  (case hb => intro s; exact BindsTo.of_eq rfl)
  (case hl => exact locs rfl)
  (case c2 => exact rfl)
  (case c3 => exact rfl)
  (case c4 => exact rfl)
  (case c5 => decide)
  k_whole
  intro dp0 un0 gd0 cn0 cs0 L0 a0 ccd0 cl0 outer0 base0 g0 L1 h1 p0 loose0 mean0 mg0 mb0 s0 tk0 B0 F0 X0 N0 T0 hdp hun hlt
  (try dsimp only [List.reverse_cons, List.reverse_nil, List.nil_append, List.cons_append] at F0)
  have hOn : HoldOn := ⟨⟩
  (try k_fold)
  have hlw := hWI.length
  rw [List.length_map, List.length_range] at hlw
  k_steps
  refine Hold.of ?_
  (rename News _ _ _ _ => eN)
  (rename Fr _ _ _ _ => eF)
  (rename IsRange _ _ _ _ _ _ _ _ => hR)
  refine nameH eN fun ol ll p1 p2 r1 r2 r3 r4 => ?_
  subst r1 r2
  clear r3 r4
  refine' kd_range (σ := LSt) (fun c => [(ll, W.listOf c.rvs.toArray c.re), (ol, W.listOf c.ovs.toArray c.oe)]) news (fun _ => []) (fun _ c => StrsAre c.rvs c.rows ∧ StrsAre c.ovs c.os)
    [Str.ofString "made", Str.ofString "parts", Str.ofString "last", Str.ofString "span", Str.ofString "sort_of"]
    (fun pre c => (c.rows, c.os) = (vrsOf (sg.take pre.length)).foldl stepD ([tsT], []) ∧ c.rows.length ≤ 1 + 7 * pre.length ∧ c.os.length ≤ 3 ∧ c.os.all PyData.strOk = true) (ll :: ol :: news.map (·.1)) ⟨[.str tsT ?tA], [tsT], ?tB, [], [], 0⟩
    (by rfl) hR (small_one (by omega) (by omega) (by omega) (by omega)) (rangeSize_nat _ _) eF eN ?hn1 (fun _ => rfl) ⟨.cons _ _ .nil, .nil⟩ (fun _ hp => nomatch hp) ⟨rfl, Nat.le_refl _, Nat.zero_le _, rfl⟩ ?turn1 ?done1
  case hn1 => kd_inAll
  case turn1 =>
    clear hR eF eN
    rintro ⟨rvs, rows, re, ovs, os, oe⟩ tl pre k t' u h' tk' own hk hlt2 hsep hoff ⟨f1, f2⟩ ⟨g1, g2, g3, g4⟩ F' N'
    obtain ⟨i, hi⟩ : ∃ i, pre.length = i := ⟨_, rfl⟩
    have hk' : k = (i : Int) := by omega
    subst hk'
    clear hk
    have hi4 : i < sg.length := by omega
    have hgi : sg[((i : Int)).toNat]? = some sg[i] := List.getElem?_eq_getElem hi4
    have hgo := hS.get (List.getElem?_eq_getElem hi4)
    obtain ⟨hw1, hw5⟩ : 1 ≤ sg[i].wd ∧ sg[i].wd ≤ 5 := ⟨hgo.lo, hgo.hi⟩
    have hgk := hgo.kind
    have hso : (Txt.split (vrOf i sg[i]).path (Str.ofString ".")).all PyData.strOk = true := sok_of hgo (by omega)
    have hvo := (vrOf_ok hgo (by omega)).parts
    have hP := hvo
    rw [hvo.eq, List.all_append, Bool.and_eq_true] at hso
    obtain ⟨hso, _⟩ := hso
    obtain ⟨ws, hws⟩ : ∃ ws, ws = (vrOf i sg[i]).ws := ⟨_, rfl⟩
    obtain ⟨la, hla⟩ : ∃ la, la = (vrOf i sg[i]).la := ⟨_, rfl⟩
    rw [← hws, ← hla] at hP
    rw [← hws] at hso
    have hn3 := hP.n3
    have hn1 := hP.n1
    have hll : la.length ≤ 4 := of_decide_eq_true (Bool.and_eq_true_iff.mp (List.all_eq_true.mp hP.ok la (List.mem_append_right _ (.head _)))).2
    clear hvo
    have hsh : ShortOn := ⟨⟩
    have hsp := spanT_len hw1 hw5
    have hkl := kdOf_len sg[i]
    have hil := item_len (i := i) (by omega)
    dsimp only [kstB, vrOf] at F' N' f1 f2 g1 g2 g3 g4 hP
    simp only [List.cons_append, List.nil_append] at N'
    have hrl := f1.length
    have hol := f2.length
    (try k_fold)
    refine gen_post fun S9 Q9 hS9 => ?_
    k_steps
    refine Hold.of ?_
    (rename News _ _ _ _ => eN)
    (rename Fr _ _ _ _ => eF)
    refine nameD eN fun Dp pvs r1 r2 => ?_
    have hpS : StrsAre pvs ws := by rw [r2]; assumption
    have hpl := hpS.length
    rw [← r2] at eN
    subst r1
    have hwb : ∀ p ∈ ws, p.length ≤ 4 := fun p hp => of_decide_eq_true (Bool.and_eq_true_iff.mp (List.all_eq_true.mp hP.ok p (List.mem_append_left _ hp))).2
    have hcl := comL_le os ws
    refine' ksw_while (σ := LSt) (fun c => (Dp, W.listOf pvs.toArray 1) :: (ll, W.listOf c.rvs.toArray c.re) :: (ol, W.listOf c.ovs.toArray c.oe) :: (news ++ (tl ++ own))) (fun _ => []) (fun c => StrsAre c.rvs c.rows ∧ StrsAre c.ovs c.os) []
      (fun c => ∃ j, c.os = os.take j ∧ j ≤ os.length ∧ comL os ws ≤ j ∧ c.rows = rows ++ List.replicate (os.length - j) upT) (fun c => c.os.length) ⟨rvs, rows, re, ovs, os, oe⟩ eF eN ⟨f1, f2⟩ (fun _ hp => nomatch hp) ⟨os.length, (List.take_length).symm, Nat.le_refl _, hcl.1, by simp⟩ ?turnA
    case turnA =>
      clear eF eN
      rintro ⟨rvs1, rows1, re1, ovs1, os1, oe1⟩ u1 h1' tk1 ⟨b1, b2⟩ ⟨j, a1, a2, a3, a4⟩ F' N'
      dsimp only [kstB] at F' N' b1 b2 a1 a2 a3 a4
      have hl1 := b1.length
      have hl2 := b2.length
      have hl3 : os1.length ≤ 3 := by rw [a1, List.length_take]; omega
      have hl4 : rows1.length ≤ rows.length + 3 := by rw [a4, List.length_append, List.length_replicate]; omega
      have hso1 : os1.all PyData.strOk = true := by rw [a1]; exact all_take g4
      (try k_fold)
      k_steps
      · refine Hold.of ?_
        (rename News _ _ _ _ => eN)
        (rename Fr _ _ _ _ => eF)
        obtain ⟨c1, c2, c3⟩ := pop_stop (n := (ovs1.length : Int).toNat) a1 a2 a3 a4 (by omega) (by assumption)
        clear a1 a2 a3 a4
        have eN1 : News g0 L1 _ ((Dp, W.listOf pvs.toArray 1) :: (ll, W.listOf rvs1.toArray re1) :: (ol, W.listOf ovs1.toArray oe1) :: (news ++ (tl ++ own))) := fun p hp => eN p (.tail _ hp)
        clear eN
        have g5 : rows1.length ≤ rows.length + 3 := by rw [c2, List.length_append, List.length_replicate]; omega
        refine' ksw_while (σ := LSt) (fun c => (Dp, W.listOf pvs.toArray 1) :: (ll, W.listOf c.rvs.toArray c.re) :: (ol, W.listOf c.ovs.toArray c.oe) :: (news ++ (tl ++ own))) (fun _ => []) (fun c => StrsAre c.rvs c.rows ∧ StrsAre c.ovs c.os) []
          (fun c => ∃ j, c.os = ws.take j ∧ comL os ws ≤ j ∧ j ≤ ws.length ∧ c.rows = rows1 ++ ((ws.take j).drop (comL os ws)).map scopeT) (fun c => ws.length - c.os.length) ⟨rvs1, rows1, re1, ovs1, os1, oe1⟩ eF eN1 ⟨b1, b2⟩ (fun _ hp => nomatch hp)
          ⟨comL os ws, c1, Nat.le_refl _, hcl.2, by rw [List.drop_eq_nil_of_le (by rw [List.length_take]; omega), List.map_nil, List.append_nil]⟩ ?turnB
        case turnB =>
          clear eF eN1 b1 b2 hl1 hl2 hl3 hl4 hso1
          rintro ⟨rvs2, rows2, re2, ovs2, os2, oe2⟩ u2 h2' tk2 ⟨b1, b2⟩ ⟨j, a1, a2, a3, a4⟩ F' N'
          dsimp only [kstB] at F' N' b1 b2 a1 a2 a3 a4
          have hl1 := b1.length
          have hl2 := b2.length
          have hl3 : os2.length ≤ 3 := by rw [a1, List.length_take]; omega
          have hl4 : rows2.length ≤ rows1.length + 3 := by rw [a4, List.length_append, List.length_map, List.length_drop, List.length_take]; omega
          (try k_fold)
          k_steps
          · refine Hold.of ?_
            (rename Fr _ _ _ _ => eF)
            (rename News _ _ _ _ => eN)
            (try simp only [List.push_toArray] at eN)
            exact ksw_end (σ := LSt) ⟨_, rows2 ++ [scopeT _], _, _, os2 ++ [_], _⟩ eF eN (by kd_inAll) ⟨kct_snoc b1, kct_snoc b2⟩ (fun _ hp => nomatch hp) (by ksw_same) (push_go (n := (ovs2.length : Int).toNat) a1 a2 a3 a4 (by omega) (by assumption)) (by dsimp only; rw [List.length_append, List.length_singleton]; omega)
          · refine Hold.of ?_
            obtain ⟨d1, d2⟩ := push_stop a1 a3 a4 (by omega)
            subst d1 d2
            clear a1 a2 a3 a4 c1 c3
            refine join_str (spanT sg[i].wd) ?span ?_
            case span =>
              (rename HoldOn => hOn9)
              clear hOn9
              k_steps
              · exact JoinS.mk (spanT_one (by omega))
              · exact JoinS.mk (spanT_more (by omega))
            intro tsp ksp
            (try dsimp only)
            k_steps
            refine Hold.of ?_
            refine join_str (kdOf sg[i]) ?sort ?_
            case sort =>
              (rename HoldOn => hOn9)
              clear hOn9
              k_steps
              · exact JoinS.mk (kdOf_reg (by assumption))
              · exact JoinS.mk (kdOf_wire (by assumption))
            intro tso kso
            (try dsimp only)
            k_steps
            refine Hold.of ?_
            refine join_str (varT (vrOf i sg[i])) ?vart ?_
            case vart =>
              (rename HoldOn => hOn9)
              clear hOn9
              k_steps
              exact JoinS.mk (varT_eq (by omega) hla)
            intro tva kva
            (try dsimp only)
            k_steps
            refine Hold.of ?_
            (rename Fr _ _ _ _ => eF)
            (rename News _ _ _ _ => eN)
            (try simp only [List.push_toArray] at eN)
            subst hS9
            have hdl : (os2.drop (comL os os2)).length ≤ 3 := by rw [List.length_drop]; omega
            refine' kd_end (tl := tl) ⟨_, rows1 ++ (os2.drop (comL os os2)).map scopeT ++ [varT (vrOf i sg[i])], _, _, os2, _⟩ [] ?kS ?kF ?kN ?kn ?ko ?ka ?kb ?kw ?kk ?kr ?kf ?kp
            case kS => assumption
            case kF => exact eF
            case kN => exact eN
            case kn => kd_inAll
            case ko => (intro p hp; kst_mem)
            case ka => rfl
            case kb => exact List.forall_mem_nil _
            case kw => exact List.forall_mem_nil _
            case kk => exact fun _ hp => nomatch hp
            case kr => kst_same
            case kf => exact ⟨kct_snoc b1, b2⟩
            case kp =>
              refine ⟨law_step (List.getElem?_eq_getElem hi4) (by rw [← hi]; exact g1) c2 hws (by rw [List.length_append, List.length_singleton, hi]), ?_, hn3, hso⟩
              dsimp only
              simp only [List.length_append, List.length_map, List.length_singleton]
              omega
      · refine Hold.of ?_
        (rename Fr _ _ _ _ => eF)
        (rename News _ _ _ _ => eN)
        (try simp only [List.push_toArray] at eN)
        exact ksw_end (σ := LSt) ⟨_, rows1 ++ [upT], _, ovs1.dropLast, os1.dropLast, _⟩ eF eN (by kd_inAll) ⟨kct_snoc b1, by assumption⟩ (fun _ hp => nomatch hp) (by ksw_same) (pop_go (n := (ovs1.length : Int).toNat) a1 a2 a3 a4 (by omega) (by assumption)) (drop_lt (by assumption))
  case done1 =>
    clear hR eF eN
    rintro ⟨rvs, rows, re, ovs, os, oe⟩ tl u h' tk' hoff ⟨f1, f2⟩ ⟨g1, g2, g3, g4⟩ F' N'
    rw [rangeKs_length] at g1 g2
    replace N' := news_cut N'
    dsimp only [kstB] at F' N' f1 f2 g1 g2 g3 g4
    simp only [List.cons_append, List.nil_append] at N'
    have g5 : rows.length ≤ 29 := by omega
    rw [List.take_of_length_le (by omega)] at g1
    have hrl := f1.length
    have hol := f2.length
    have hhl := hHA.length
    (try k_fold)
    k_steps
    refine Hold.of ?_
    (rename News _ _ _ _ => eN)
    (rename Fr _ _ _ _ => eF)
    refine nameD eN fun Dl zs0 r1 r2 => ?_
    have hz : StrsAre zs0 (rows ++ List.replicate (ovs.length : Int).toNat upT ++ [endT]) := by rw [r2]; assumption
    rw [← r2] at eN
    subst r1
    have hDl : ∀ p ∈ news, p.1 ≠ Dl := by k_all
    clear r2
    repeat ((with_reducible (rename And _ _ => hc9)); clear hc9)
    obtain ⟨e1, e2, e3⟩ := law_rows (n := (ovs.length : Int).toNat) hS h4 g1 (by omega)
    refine' kd_anyT (σ := TSt) (fun c => [(Dl, W.listOf c.rvs.toArray c.re)]) news (fun c => [(Str.ofString "before", .int c.now c.nt)]) (fun _ c => StrsAre c.rvs c.rows) [Str.ofString "key", Str.ofString "value", Str.ofString "signs"]
      (fun i c => (c.rows, c.now) = (H.take i).foldl stepT (rows ++ List.replicate (ovs.length : Int).toNat upT ++ [endT], -1) ∧ c.rows.length ≤ 41 + 2 * i ∧ ∀ y ∈ c.rows, y.length ≤ 80) (Dl :: news.map (·.1)) ⟨zs0, rows ++ List.replicate (ovs.length : Int).toNat upT ++ [endT], _, -1, _⟩ (Str.ofString "now")
      (by rfl) mhl eF eN ?hn2 (fun _ => rfl) ?hf2 ?hk2 ?hp2 ?turn2 ?done2
    case hn2 => kd_inAll
    case hf2 => exact hz
    case hk2 => exact List.forall_mem_cons.mpr ⟨by with_unfolding_all rfl, List.forall_mem_nil _⟩
    case hp2 => exact ⟨rfl, e2, e3⟩
    case turn2 =>
      clear eF eN
      rintro ⟨zvs, zs, ze, now, nt⟩ tl i v u ⟨h', g', d', tk', o'⟩ own hv' hsep hoff z1 ⟨z2, z3, z4⟩ F' N'
      obtain ⟨hg, hgi, tp, tq, n8, n9, t1, t2, t3, t4, t5, rfl, hmt, hmq⟩ := hHA.at hv'
      obtain ⟨hn0, hn1, hvk⟩ := hHo.lo.2 hg (List.mem_of_getElem? hgi)
      obtain ⟨k0, k1, ⟨gg, hgg, hwd⟩, ha0, ha1, hb0, hb1⟩ := hvk
      have hgw := hS.wd hgg
      rw [← hwd] at hgw
      obtain ⟨hw1, hw5, _, _⟩ := hgw
      have hi9 := (List.getElem?_eq_some_iff.mp hgi).1
      have hil := idT_len hg.key
      have hsl := sgnCat_len hg.a hg.b (rangeKs 0 hg.wd.toNat)
      rw [rangeKs_length] at hsl
      dsimp only [kstB] at F' N' z1 z2 z3 z4 ⊢
      simp only [List.cons_append, List.nil_append] at N'
      have z5 := z1.length
      (try k_fold)
      generalize hS9 : KdS _ _ _ _ _ _ _ _ _ _ = S9
      k_steps
      all_goals refine Hold.of ?_
      all_goals (rename Fr _ _ _ _ => eF)
      all_goals (rename News _ _ _ _ => eN)
      all_goals (try simp only [List.push_toArray] at eN)
      all_goals subst hS9
      all_goals (try dsimp only)
      · refine' kd_end (tl := tl) ⟨_, zs ++ [stampT hg.now] ++ [chRowT hg.wd (idT hg.key) hg.a hg.b], _, _, _⟩ [] ?kS ?kF ?kN ?kn ?ko ?ka ?kb ?kw ?kk ?kr ?kf ?kp
        case kS => assumption
        case kF => exact eF
        case kN => exact eN
        case kn => kd_inAll
        case ko => (intro p hp; kst_mem)
        case ka => rfl
        case kb => exact List.forall_mem_nil _
        case kw => exact List.forall_mem_nil _
        case kk => exact List.forall_mem_cons.mpr ⟨by with_unfolding_all rfl, List.forall_mem_nil _⟩
        case kr => kst_same
        case kf => exact strs_snoc2 z1 (ChRow.eq (lawRow2 k0 (by omega) (by omega) (by assumption)))
        case kp => exact chg_new hgi z2 (by assumption) z3 z4 (stampT_len hn0 (by omega)) (lawRow2 k0 (by omega) (by omega) (by assumption)) hw5 hil
      · refine' kd_end (tl := tl) ⟨_, zs ++ [stampT hg.now] ++ [chRowT hg.wd (idT hg.key) hg.a hg.b], _, _, _⟩ [] ?kS ?kF ?kN ?kn ?ko ?ka ?kb ?kw ?kk ?kr ?kf ?kp
        case kS => assumption
        case kF => exact eF
        case kN => exact eN
        case kn => kd_inAll
        case ko => (intro p hp; kst_mem)
        case ka => rfl
        case kb => exact List.forall_mem_nil _
        case kw => exact List.forall_mem_nil _
        case kk => exact List.forall_mem_cons.mpr ⟨by with_unfolding_all rfl, List.forall_mem_nil _⟩
        case kr => kst_same
        case kf => exact strs_snoc2 z1 (ChRow.eq (lawRow1 k0 (by omega) hw1 (by omega)))
        case kp => exact chg_new hgi z2 (by assumption) z3 z4 (stampT_len hn0 (by omega)) (lawRow1 k0 (by omega) hw1 (by omega)) hw5 hil
      · refine' kd_end (tl := tl) ⟨_, zs ++ [chRowT hg.wd (idT hg.key) hg.a hg.b], _, _, _⟩ [] ?kS ?kF ?kN ?kn ?ko ?ka ?kb ?kw ?kk ?kr ?kf ?kp
        case kS => assumption
        case kF => exact eF
        case kN => exact eN
        case kn => kd_inAll
        case ko => (intro p hp; kst_mem)
        case ka => rfl
        case kb => exact List.forall_mem_nil _
        case kw => exact List.forall_mem_nil _
        case kk => exact List.forall_mem_cons.mpr ⟨by with_unfolding_all rfl, List.forall_mem_nil _⟩
        case kr => kst_same
        case kf => exact strs_snoc z1 (ChRow.eq (lawRow2 k0 (by omega) (by omega) (by assumption)))
        case kp => exact chg_old2 hgi z2 (by assumption) z3 z4 (lawRow2 k0 (by omega) (by omega) (by assumption)) hw5 hil
      · refine' kd_end (tl := tl) ⟨_, zs ++ [chRowT hg.wd (idT hg.key) hg.a hg.b], _, _, _⟩ [] ?kS ?kF ?kN ?kn ?ko ?ka ?kb ?kw ?kk ?kr ?kf ?kp
        case kS => assumption
        case kF => exact eF
        case kN => exact eN
        case kn => kd_inAll
        case ko => (intro p hp; kst_mem)
        case ka => rfl
        case kb => exact List.forall_mem_nil _
        case kw => exact List.forall_mem_nil _
        case kk => exact List.forall_mem_cons.mpr ⟨by with_unfolding_all rfl, List.forall_mem_nil _⟩
        case kr => kst_same
        case kf => exact strs_snoc z1 (ChRow.eq (lawRow1 k0 (by omega) hw1 (by omega)))
        case kp => exact chg_old2 hgi z2 (by assumption) z3 z4 (lawRow1 k0 (by omega) hw1 (by omega)) hw5 hil
    case done2 =>
      clear eF eN
      rintro ⟨zvs, zs, ze, now, nt⟩ tl u h' tk' hoff z1 ⟨z2, z3, z4⟩ F' N'
      rw [hhl, List.take_length] at z2
      dsimp only [kstB] at F' N' z1 z2 z3 z4
      simp only [List.cons_append, List.nil_append] at N'
      have z5 := z1.length
      have hw : (zs.map (·.length)).sum + zs.length ≤ 1048576 := by
        have := sum_len z4
        omega
      have hj := join_len_n (k := 20000) (ys := zs) (by have := sum_len z4; omega)
      (try k_fold)
      k_steps
      walk_at "mine pure"
      refine ⟨_, congrArg (fun z => Value.str z _) ?_⟩
      rw [dumpT, ← e1, ← z2]
theorem word_72 : True := by
  (k_with "call ref" => (k_here; (with_reducible show wpAny _ _ (call (Value.ref 342) _) _ _ _); k_dflt (refine' Spec.use (law_due_spec _ _ _ _ _ _ ?hWzh ?h1zh ?h4zh ?hSzh ?hHzh ?hHozh ?hmzh) ?k1zh ?k2zh ?k3zh ?k4zh ?k5zh ?kKzh ?kdzh ?kuzh ?_; (case k1zh => k_asm); (case k2zh => k_asm); (case k3zh => k_asm); (case k4zh => k_asm); (case k5zh => k_asm); (case kKzh => first | exact rfl | assumption); (case kdzh => ktr_room); (case kuzh => ktr_units); (case hWzh => assumption); (case h1zh => assumption); (case h4zh => assumption); (case hSzh => assumption); (case hHzh => assumption); (case hHozh => assumption); (case hmzh => assumption)); intro r9zq nw9zq h9zq tk9zq F9zq N9zq hr9zq; obtain ⟨e9zq, t9zq, e9bzq⟩ := hr9zq; (have e8zq := e9zq.symm); (clear e9zq); (subst e8zq); (try subst e9bzq); (try dsimp only at N9zq); (try dsimp only); (try k_lt l9zq); (try k_sweep)))
  trivial

theorem word_73 : True := by
  (k_with "call ref" => (k_here; (with_reducible show wpAny _ _ (call (Value.ref 307) _) _ _ _); k_dflt (refine' SpecB.use (law_mine_spec _ _ _ _ ?hizh ?hlzh) ?k1zh ?k2zh ?k3zh ?k9zh ?k4zh ?k5zh ?kKzh ?kdzh ?kuzh ?_; (case k1zh => k_asm); (case k2zh => k_asm); (case k3zh => k_asm); (case k4zh => k_asm); (case k5zh => k_asm); (case k9zh => assumption); (case kKzh => first | exact rfl | assumption); (case kdzh => ktr_room); (case kuzh => ktr_units); (case hizh => assumption); (case hlzh => omega)); intro r9zq nw9zq h9zq tk9zq F9zq N9zq hr9zq; obtain ⟨l9zq, vs9zq, ns9zq, ep9zq, e9bzq, e9zq, hi9zq, hl9zq⟩ := hr9zq; (have e8zq := e9zq.symm); (clear e9zq); (subst e8zq); (subst e9bzq); (try dsimp only)))
  trivial
theorem word_74 : True := by
  (k_with "call ref" => (k_here; (with_reducible show wpAny _ _ (call (Value.ref 321) _) _ _ _); k_dflt (refine' Spec.use (law_world_spec _ _ _ _ _ ?hizh ?hlzh) ?k1zh ?k2zh ?k3zh ?k4zh ?k5zh ?kKzh ?kdzh ?kuzh ?_; (case k1zh => k_asm); (case k2zh => k_asm); (case k3zh => k_asm); (case k4zh => k_asm); (case k5zh => k_asm); (case kKzh => first | exact rfl | assumption); (case kdzh => ktr_room); (case kuzh => ktr_units); (case hizh => assumption); (case hlzh => assumption)); intro r9zq nw9zq h9zq tk9zq F9zq N9zq hr9zq; obtain ⟨d9zq, sg9zq, H9zq, m9zq, e9bzq, hW9zq, h19zq, h49zq, hS9zq, hH9zq, hHo9zq, hm9zq⟩ := hr9zq; (subst e9bzq); (try dsimp only)))
  trivial
theorem whole.tw17692944630003236201 : True := trivial
theorem whole.tw56579799404342304 : True := trivial
theorem whole.tw13489153976866020792 : True := trivial
theorem whole.tw5555432054334073125 : True := trivial
theorem whole.tw1470681187219097129 : True := trivial
theorem whole.tw2680952665620796087 : True := trivial
theorem whole.tw288753823552808224 : True := trivial
theorem whole.tw11715849080736603976 : True := trivial
theorem whole.tw14296350145282714118 : True := trivial
theorem whole.tw6777096704418759803 : True := trivial
theorem whole.tw199079039003765069 : True := trivial
theorem whole.tw4305925821550244790 : True := trivial
theorem whole.tw12384909515848061526 : True := trivial
theorem whole.tw3384858237140249800 : True := trivial
theorem whole.tw6945632563721245223 : True := trivial
theorem whole.tw16149423721252634036 : True := trivial
theorem whole.tw15539963934695697727 : True := trivial
theorem whole.tw7545654013535254480 : True := trivial
theorem whole.tw8309436690622926411 : True := trivial
theorem whole.tw10885771452387388256 : True := trivial
theorem whole.tw7297460066073513614 : True := trivial
theorem whole.tw10472183733418339316 : True := trivial
theorem whole.tw12066178620653064874 : True := trivial
theorem whole.tw4429658319695502269 : True := trivial
theorem whole.tw203428145850139289 : True := trivial
theorem whole.tw3479739002732855021 : True := trivial
theorem whole.tw5189780602208921310 : True := trivial
theorem whole.tw8198747375965375212 : True := trivial
theorem whole.tw254780913952180833 : True := trivial
theorem whole.tw6531100040246800141 : True := trivial
theorem whole.tw17195952149560314771 : True := trivial
theorem whole.tw6711224856247384401 : True := trivial
theorem whole.tw11409993775148365219 : True := trivial
theorem whole.tw14621228733418778453 : True := trivial
theorem whole.tw8109663874093803249 : True := trivial
theorem whole.tw10335108021726791369 : True := trivial
theorem whole.tw949743934663060849 : True := trivial
theorem whole.tw7078629122812257199 : True := trivial
theorem whole.tw2290268214366725154 : True := trivial
theorem whole.tw11952309323241053379 : True := trivial
theorem whole.tw2083198920140632441 : True := trivial
theorem whole.tw8983667203327932493 : True := trivial
theorem whole.tw15835130817642446534 : True := trivial
theorem whole.tw14407849266092530191 : True := trivial
theorem whole.tw16576061068926947915 : True := trivial
theorem whole.tw9685896690342822935 : True := trivial
theorem whole.tw17128258169734466478 : True := trivial
theorem whole.tw15753750472616573813 : True := trivial
theorem whole.tw11690859581915506653 : True := trivial
theorem whole.tw9200330197067421115 : True := trivial
theorem whole.tw843396670912023852 : True := trivial
theorem whole.tw7868544009499267292 : True := trivial
theorem whole.tw1242133270297695508 : True := trivial
theorem whole.tw15089273742334493110 : True := trivial
theorem whole.tw6772379921613518395 : True := trivial
theorem whole.tw13000713063990318526 : True := trivial
theorem whole.tw14395644662136614805 : True := trivial
theorem whole.tw4672207989499910625 : True := trivial
theorem whole.tw13730376311393935369 : True := trivial
theorem whole.tw13334927893685096626 : True := trivial
theorem whole.tw7509650053966640704 : True := trivial
theorem whole.tw13110515450571257733 : True := trivial
theorem whole.tw9501391760213346845 : True := trivial
theorem whole.tw16668768811381343612 : True := trivial
theorem whole.tw16342273516520970692 : True := trivial
theorem whole.tw6496092161831514541 : True := trivial
theorem whole.tw8719548228035378133 : True := trivial
theorem whole.tw5477020428343274486 : True := trivial
theorem whole.tw5833760311655045577 : True := trivial
theorem whole.tw16845944245580146995 : True := trivial
theorem whole.tw2536362301702204066 : True := trivial
theorem whole.tw14756447051001558117 : True := trivial
theorem whole.tw7499365098147365621 : True := trivial
theorem whole.tw12808456870637180559 : True := trivial
theorem whole.tw16731332320388202666 : True := trivial
theorem whole.tw15338273372565686330 : True := trivial
theorem whole.tw10219327507634694686 : True := trivial
theorem whole.tw2021854409746315462 : True := trivial
theorem whole.tw6095937858554715304 : True := trivial
theorem whole.tw381110514646162275 : True := trivial
theorem whole.tw14173393766343599159 : True := trivial
theorem whole.tw16564990636065421569 : True := trivial
theorem whole.tw8572516506043022915 : True := trivial
theorem whole.tw1488662743745869538 : True := trivial
theorem whole.tw1640677438868554593 : True := trivial
theorem whole.tw7576292583959916747 : True := trivial
theorem whole.tw397210227534267232 : True := trivial
theorem whole.tw13463558215457259582 : True := trivial
theorem whole.tw7977878525754885090 : True := trivial
theorem whole.tw15206955865107345967 : True := trivial
theorem whole.tw4603890583814415204 : True := trivial
theorem whole.tw12852820008105578649 : True := trivial
theorem whole.tw43722865635132848 : True := trivial
theorem whole.tw1219099391390118749 : True := trivial
theorem whole.tw13835169320686990480 : True := trivial
theorem whole.tw10354518954362131899 : True := trivial
theorem whole.tw17814491789457634051 : True := trivial
theorem whole.tw16616245412964173377 : True := trivial
theorem whole.tw17175008800681467811 : True := trivial
theorem whole.tw4346055641746905949 : True := trivial
theorem whole.tw1765076044715932963 : True := trivial
theorem whole.tw285988719286631819 : True := trivial
theorem whole.tw3085902745639715626 : True := trivial
theorem whole.tw17980908128825299112 : True := trivial
theorem whole.tw15657491793718945610 : True := trivial
theorem whole.tw9212966250080664162 : True := trivial
theorem whole.tw4447922135398794285 : True := trivial
theorem whole.tw15462414832971340256 : True := trivial
theorem whole.tw2912573282932879776 : True := trivial
theorem whole.tw3935972832432928633 : True := trivial
theorem whole.tw5277582801102665213 : True := trivial
theorem whole.tw4162360135600614074 : True := trivial
theorem whole.tw715978364194892080 : True := trivial
theorem whole.tw4725433933799282014 : True := trivial
theorem whole.tw5201323674647411954 : True := trivial
theorem whole.tw17700112632457955127 : True := trivial
theorem whole.tw842793390314483620 : True := trivial
theorem whole.tw6525215580464160042 : True := trivial
theorem whole.tw18162983195158539490 : True := trivial
theorem whole.tw12098860561503762481 : True := trivial
theorem whole.tw13675596732203519343 : True := trivial
theorem whole.tw1266484639899004939 : True := trivial
theorem whole.tw18135788421098096370 : True := trivial
theorem whole.tw6888942637506950926 : True := trivial
theorem whole.tw8615399842404961663 : True := trivial
theorem whole.tw15401142651479110994 : True := trivial
theorem whole.tw3127163415804763599 : True := trivial
theorem whole.tw13213058742666125385 : True := trivial
theorem whole.tw1859146779660683823 : True := trivial
theorem whole.tw8602141644225615130 : True := trivial
theorem whole.tw14857529406646634625 : True := trivial
theorem whole.tw5542149417468696053 : True := trivial
theorem whole.tw17870853324313594786 : True := trivial
theorem whole.tw5015864234111024480 : True := trivial
theorem whole.tw4689585835679557668 : True := trivial
theorem whole.tw3945383572190744343 : True := trivial
theorem whole.tw2439357469168130064 : True := trivial
theorem whole.tw8258574867067344367 : True := trivial
theorem whole.tw6734874506966982255 : True := trivial
theorem whole.tw437534634077163847 : True := trivial
theorem whole.tw6872907005359335961 : True := trivial
theorem whole.tw12742087137024979937 : True := trivial
theorem whole.tw11792362355297244138 : True := trivial
theorem whole.tw8868806382682364411 : True := trivial
theorem whole.tw6648197116569056673 : True := trivial
theorem whole.tw8341004590406740810 : True := trivial
theorem whole.tw15001587830400145190 : True := trivial
theorem whole.tw12092817750456807627 : True := trivial
theorem whole.tw3125283655325999989 : True := trivial
theorem whole.tw7564407027854533171 : True := trivial
theorem whole.tw14916202748087371944 : True := trivial
theorem whole.tw17075553230084287909 : True := trivial
theorem whole.tw8181180424491326830 : True := trivial
theorem whole.tw9170513070990267023 : True := trivial
theorem whole.tw14661705875561194100 : True := trivial
theorem whole.tw17991299263585117788 : True := trivial
theorem whole.tw536816803628104207 : True := trivial
theorem whole.tw11678933692714762019 : True := trivial
theorem whole.tw5438831827131416888 : True := trivial
theorem whole.tw6612613915786651340 : True := trivial
theorem whole.tw4338333698743118245 : True := trivial
theorem whole.tw9521756469634577901 : True := trivial
theorem whole.tw5462770333876777704 : True := trivial
theorem whole.tw3306209509626126654 : True := trivial
theorem whole.tw9787344453429475573 : True := trivial
theorem whole.tw9775085227918541326 : True := trivial
theorem whole.tw4180466227808675834 : True := trivial
theorem whole.tw15103685750691789098 : True := trivial
theorem whole.tw6866068747796929802 : True := trivial
theorem whole.tw6266228650988000492 : True := trivial
theorem whole.tw9406530864695525851 : True := trivial
theorem whole.tw10832908153356258463 : True := trivial
theorem whole.tw8444963059077079450 : True := trivial
theorem whole.tw3798757254938238448 : True := trivial
theorem whole.tw17395194986337826024 : True := trivial
theorem whole.tw14138553856905868755 : True := trivial
theorem whole.tw17463027529269885953 : True := trivial
theorem whole.tw6453619897266653623 : True := trivial
theorem whole.tw17843127513448600897 : True := trivial
theorem whole.tw15652777202477211125 : True := trivial
theorem whole.tw2349701861695252166 : True := trivial
theorem whole.tw369943808078234791 : True := trivial
theorem whole.tw13156973312945586846 : True := trivial
theorem whole.tw6416634858453334624 : True := trivial
set_option Elab.async true in
theorem whole : PySem.Challenge.rw_on0115_01.Holds := by
  w_on
  o_law
  k_head
  (case hw => w_witness2)
  w_strict (
    k_go0
    (all_goals try k_fold)
    (rename Frag.In _ _ => kx9)
    have kx8 : (pre.heap_1 _).In _ := kx9
    k_steps
    (all_goals (try k_data)))
end Mine

theorem PySem.Challenge.cw_on0115_01_holds : PySem.Challenge.rw_on0115_01.Holds :=
  Mine.whole
